import PyProof.Rows.All
import Wide.All
import OpenK.AllK
import Wide.FinOn
import KE.KStateDown
import KE.DataEq
import Lean
import HandS.ForMost
import HandS.Flow
import HandS.Steps
import HandS.Style
import HandS.IsInst
import HandS.SetKeys
import HandS.TupAny
import HandS.Deep
import HandS.Walk
import HandS.Codes
import HandS.Defaults
import HandS.Head0
import HandS.Head1
import HandS.Head2
import HandS.HeadEnd
import HandS.HeadHook1
import HandS.HeadHook2
import KE.GoesMore
import HandS.FStrTup
import KE.KDictList
import HandS.More
import HandS.Strs
import HandS.NoneIn
import KE.KDictCopyH
import HandS.Lambda
import HandS.TryOnly
import HandS.Exc
import HandS.ExcInit
import HandS.ExcField
import HandS.Property
import HandS.StrMore
import PySem.Challenge.RW_twigscripts_k78_scripts_as_objects

set_option Elab.async false
set_option linter.all false
set_option maxRecDepth 100000
set_option maxHeartbeats 4000000
/-! names for the readings of the layer's rules -/
namespace Tw
open PySem PySem.Spec PyProof.Rows L2
def rAddI : R2 := rI0 fun i j => .int (i + j)
def rSubI : R2 := rI0 fun i j => .int (i - j)
def rMulI : R2 := rI CMul fun i j => .int (i * j)
def rDivI : R2 := rI CDiv fun i j => .int (i / j)
def rModI : R2 := rI (fun _ j => 0 < j) fun i j => .int (i % j)
def rPowI : R2 := rI CPow fun i j => .int (i ^ j.toNat)
def rLtI : R2 := rI0 fun i j => .bl (decide (i < j))
def rLeI : R2 := rI0 fun i j => .bl (decide (i ≤ j))
def rGtI : R2 := rI0 fun i j => .bl (decide (j < i))
def rGeI : R2 := rI0 fun i j => .bl (decide (j ≤ i))
def rLtS : R2 := fun x y H Q => ∃ i j, x = .str i ∧ y = .str j ∧ Q (.bl (decide (i.cps.toList < j.cps.toList))) H
def rAddS : R2 := fun x y H Q => ∃ i j, x = .str i ∧ y = .str j ∧ i.length + j.length ≤ sizeLine ∧ Q (.str (i ++ j)) H
def rAbs : List V → Hp → VK → Prop := fun xs H Q => ∃ i, xs = [.int i] ∧ Q (.int (if i < 0 then -i else i)) H
def rInt1 : List V → Hp → VK → Prop := fun xs H Q => (∃ i, xs = [.int i] ∧ Q (.int i) H) ∨ ∃ k, xs = [.bl k] ∧ Q (.int (if k then 1 else 0)) H
def rLenD : List V → Hp → VK → Prop := fun xs H Q => ∃ a kvs, xs = [V.ref a] ∧ Rd H a (.dK kvs) ∧ Q (.int kvs.length) H
def rLenV (K : PySem.W.Frag) : List V → Hp → VK → Prop := fun xs H Q => ∃ x n, xs = [x] ∧ LenV K x H n ∧ Q (.int n) H
def rJoin (K : PySem.W.Frag) : V → List V → Hp → VK → Prop := fun x xs H Q => ∃ a p, ∃ ys : List Str, x = .str a ∧ xs = [.ref p] ∧ (SqL K H p (ys.map V.str) ∨ SqT K H p (ys.map V.str)) ∧ (ys.map (·.length)).sum + ys.length * a.length ≤ 16777216 ∧ Q (.str (Txt.join a ys)) H
/-! ### a def of the top, called by its name -/
/-- the def st stands at the module's name x -/
def DefAt (K : PySem.W.Frag) (mg : Str → Option Value) (x : Str) (st : Stmt) : Prop := ∃ f fd, FunD K x x (defArgs st) (defBody st) (defScope st) [] [] f fd ∧ mg x = some (.ref f)
section
variable {P : Program} {w : World} {K : PySem.W.Frag} {mg : Str → Option Value} {base : Heap}
/-- a def that may be called by its name (it lets no exception out) -/
structure Cal (P : Program) (w : World) (K : PySem.W.Frag) (mg : Str → Option Value) (base : Heap) (k : Nat) (x : Str) (sp : Sp) : Prop where
  ex : ∃ (f : Addr) (fd : FuncData) (ps : List Str), FnOk P w K mg base CX0 k f fd ps sp ∧ mg x = some (.ref f) ∧ PySem.W.keepIn K (.ref f) = true ∧ Binds K fd ps []
theorem cal_of {x : Str} {st : Stmt} {N ps : List Str} {k : Nat} {sp : Sp} (D : DefAt K mg x st)
    (hb : ∀ (kV doc pm : Value) (an : Option Addr) (cdv ct : Value) (us : List Value), us.length = ps.length → bindArgs (PySem.W.fnOf x x (defArgs st) (defBody st) (defScope st) .none kV doc pm an cdv ct) ⟨us, []⟩ = pure (ps.zip us))
    (S : FnScope N ps (defScope st)) (len : ∀ vs H Q E, sp vs H Q E → vs.length = ps.length) {t : TS}
    (body : ∀ (cdv : Value) (f : Addr) (A : Around) (outer : List Env) (s : Shared) (H : Hp) (E : XK), Room k (A.deeper (envOfC x (defScope st) s.heap.objs.size f cdv)) →
      PSs (cxOf CX0 P w K mg base N x (defScope st) f cdv A outer s H E).nox (defBody st) t)
    (pure_ : ∀ (vs : List V) (H : Hp) (Q : VK) (E : XK), sp vs H Q E → t { nx := fun _ H' => Q .non H', rt := Q } (start N vs) H) : Cal P w K mg base (k + 1) x sp := by
  obtain ⟨f, fd, F, g⟩ := D
  exact ⟨f, fd, ps, F.ok S len fun cdv A outer s H vs Q E hr h => ⟨t, (body cdv f A outer s H E hr).nox, pure_ vs H Q E h⟩, g, F.kp, F.bindsN hb⟩
end
section
variable {X : Cx} {k j : Nat} {x : Str} {sp : Sp} {p pos : Pos} {e : Expr} {es : List Expr} {t : TA}
theorem pe_c (c : Cal X.prog X.w X.K X.mg X.base k x sp) (hr : Room j X.A) (hk : k ≤ j) (hg : Gl X x) (ha : PA X (e :: es) t)
    (hdb : (x == ("__debug__" : Str)) = false := by decide) (he : starEach (e :: es) X.env = (false, eval e X.env) :: starEach es X.env := by rfl) (hpl : (backTo pos (starEach es X.env)).any (·.1) = false := by rfl) :
    PE X (.Call (.Name x p) (e :: es) [] pos) (tCall sp [] E0 t) := by
  obtain ⟨f, fd, ps, F, hm, kp, b⟩ := c.ex
  exact pe_call F (hr.mono hk) hg hm kp b .nil pass0 ha hdb he hpl
theorem pe_c0 (c : Cal X.prog X.w X.K X.mg X.base k x sp) (hr : Room j X.A) (hk : k ≤ j) (hg : Gl X x) (hdb : (x == ("__debug__" : Str)) = false := by decide) :
    PE X (.Call (.Name x p) [] [] pos) (tCall sp [] E0 tNil) := by
  obtain ⟨f, fd, ps, F, hm, kp, b⟩ := c.ex
  exact pe_call0 F (hr.mono hk) hg hm kp b .nil pass0 hdb
/-- a module's constant -/
theorem pe_gc {v : V} (hg : Gl X x) (h : ∃ u, X.mg x = some u ∧ RelV v u) (hd : (x == ("__debug__" : Str)) = false := by decide) : PE X (.Name x pos) (tC v) := by
  obtain ⟨u, hm, r⟩ := h
  exact pe_glob hg hm r hd
end
/-! ### text * int -/
def rRepS : R2 := fun x y H Q => ∃ (z : Str) (n : Int), x = .str z ∧ y = .int n ∧ MulOk z n ∧ Q (.str (Txt.mul z n)) H
theorem op_repS {X : Cx} : OpR X (binaryOp .Mult) rRepS := by
  intro pins s σ H x y v u Q I rx ry h
  obtain ⟨z, n, rfl, rfl, ok, q⟩ := h
  obtain ⟨t, rfl⟩ := rx
  obtain ⟨t', rfl⟩ := ry
  obtain ⟨hp, g, d, tk, os⟩ := s
  exact SB.mul ok fun t2 k => ⟨.str _, H, I.tok _, ⟨_, rfl⟩, q⟩
/-! ### a text against a dict -/
theorem str_eq_declines_dict (b : Str) (u : Tok) (l : Addr) (o : Obj) (es : Array DictEntry) (n : Nat) (hd : o.data = .dict es n) (hc : o.cls = .type "dict") :
    Meets (Builtin.«str.__eq__» ⟨[.str b u, .ref l], []⟩) (fun _ R s => s.heap.get? l = some o ∧ R (.ok (.ret .notImplemented)) s) :=
  .of_wp fun prog w A R s h => by
    obtain ⟨hp, g, d, tk, os⟩ := s
    obtain ⟨hl, h⟩ := h
    obtain ⟨c, dd, dt, sl⟩ := o
    simp only at hd hc
    subst hd hc
    wp_walk using wpAny_loadPart' hl, wpAny_load hl
    exact ⟨_, rfl, h⟩
theorem dict_eq_declines_str (l : Addr) (o : Obj) (es : Array DictEntry) (n : Nat) (hd : o.data = .dict es n) (hc : o.cls = .type "dict") (b : Str) (u : Tok) :
    Meets (Builtin.«dict.__eq__» ⟨[.ref l, .str b u], []⟩) (fun _ R s => s.heap.get? l = some o ∧ R (.ok (.ret .notImplemented)) s) :=
  .of_wp fun prog w A R s h => by
    obtain ⟨hp, g, d, tk, os⟩ := s
    obtain ⟨hl, h⟩ := h
    obtain ⟨c, dd, dt, sl⟩ := o
    simp only at hd hc
    subst hd hc
    have f1 := F.sub_str_dict
    wp_walk using wpAny_loadPart' hl
    exact ⟨_, rfl, h⟩
section
variable {A : Around} {s : Shared}
theorem rc_str_dict {l : Addr} {o : Obj} (b : Str) (u : Tok) (es : Array DictEntry) (n : Nat) (ho : s.heap.get? l = some o) (hc : o.cls = .type "dict") (hd : o.data = .dict es n) (hu : A.units < cLine) : SeqAt.RcAt A s (.str b u) (.ref l) false := fun prog w E Q h =>
  SeqAt.rc_eq_decline_or (k := false) (typeIs_str s b u) ⟨_, ho, hc⟩ (by decide) F.sub_dict_str F.slot_str_eq F.slot_dict_eq_refl
    (fun _ hq => call_meets F.slot_str_eq (typeIs_str s b u) F.entry_str_eq (F.args_str_eq_2 _ _) (str_eq_declines_dict b u l o es n hd hc) ⟨ho, hq⟩)
    (fun _ hq => call_meets F.slot_dict_eq_refl ⟨_, ho, hc⟩ F.entry_dict_eq (F.args_dict_eq_2 _ _) (dict_eq_declines_str l o es n hd hc b u) ⟨ho, hq⟩)
    (fun _ hq => wpAny_of_eq (rfl : isSame (.str b u) (.ref l) = pure false) hq) (.inr hu) h
theorem eqAt_str_dict {l : Addr} {o : Obj} (b : Str) (u : Tok) (es : Array DictEntry) (n : Nat) (ho : s.heap.get? l = some o) (hc : o.cls = .type "dict") (hd : o.data = .dict es n) (hu : A.units < cLine) : SeqAt.EqAt A s (.str b u) (.ref l) false := fun prog w E Q h => by
  unfold eqBool
  refine wpAny_holding ?_
  refine wpAny_ite_split (fun hab => absurd (eq_of_beq hab) nofun) (fun _ => ?_)
  exact wpAny_bind (rc_str_dict b u es n ho hc hd hu prog w E _ (wpAny_truthy_bool h))
end
/-! ### any value, and whether it stands in a row of texts -/
inductive AV (K : PySem.W.Frag) (H : Hp) : V → Prop
  | non : AV K H .non
  | bl (b : Bool) : AV K H (.bl b)
  | int (i : Int) : AV K H (.int i)
  | str (x : Str) (sz : x.length ≤ sizeLine) : AV K H (.str x)
  | lst {a : Addr} {xs : List V} (h : SqL K H a xs) : AV K H (.ref a)
  | tup {a : Addr} {xs : List V} (h : SqT K H a xs) : AV K H (.ref a)
  | dct {a : Addr} {kvs : List (Key × V)} (h : Rd H a (.dK kvs)) : AV K H (.ref a)
def inA (x : V) (ss : List Str) : Bool := match x with
  | .str z => ss.contains z
  | _ => false
def rInA (K : PySem.W.Frag) (neg : Bool) : R2 := fun x y H Q => ∃ p ss, y = .ref p ∧ (SqL K H p (ss.map V.str) ∨ SqT K H p (ss.map V.str)) ∧ AV K H x ∧ Q (.bl (if neg then !inA x ss else inA x ss)) H
def eqA (x : V) (u : Value) : Bool := match x, u with
  | .str z, .str y _ => y == z
  | _, _ => false
theorem any_eqA {x : V} : ∀ {ss : List Str} {us : List Value}, Vals (ss.map V.str) us → us.any (eqA x) = inA x ss
  | [], _, .nil => by cases x <;> rfl
  | z :: ss, _, .cons ⟨t, e⟩ r => by
    subst e
    rw [List.any_cons, any_eqA r]
    cases x with
    | str y =>
      show (z == y || ss.contains y) = (z :: ss).contains y
      rw [List.contains_cons]
      congr 1
      rw [Bool.eq_iff_iff, beq_iff_eq, beq_iff_eq]
      exact eq_comm
    | _ => rfl
theorem eqAt_any {X : Cx} {pins : List (Addr × Obj)} {σ : L2.St} {H : Hp} {s : Shared} {A : Around} {x : V} {v : Value} (I : Inv X pins σ H s) (rx : RelV x v) (h : AV X.K H x) (hu : A.units < cLine) :
    ∀ {ss : List Str} {us : List Value}, Vals (ss.map V.str) us → ∀ u ∈ us, SeqAt.EqAt A s u v (eqA x u)
  | [], _, .nil, _, hu' => by cases hu'
  | z :: ss, _, .cons ⟨t, e⟩ r, u, hu' => by
    rcases List.mem_cons.mp hu' with rfl | hm
    · subst e
      cases h with
      | non => cases rx; exact SeqAt.EqAt.str_none z t
      | bl b => cases rx; exact SeqAt.EqAt.str_bool z t b
      | int i => obtain ⟨t', rfl⟩ := rx; exact SeqAt.EqAt.str_int z t i t'
      | str y _ => obtain ⟨t', rfl⟩ := rx; exact SeqAt.EqAt.str_str z t y t'
      | lst h =>
        cases rx
        obtain ⟨its, _, pl, _⟩ := I.list h
        exact SeqAt.EqAt.str_list z t pl.isList hu
      | tup h =>
        cases rx
        obtain ⟨its, _, pl, _⟩ := I.tuple h
        exact SeqAt.EqAt.str_tuple z t pl hu
      | @dct a kvs h =>
        cases rx
        have ok : ObjOk X.prog X.w H s.heap a (.dK kvs) := by
          rcases h with h | ⟨ob, h⟩
          · exact I.hok _ _ h
          · exact (show ObjOk X.prog X.w H s.heap a (.frz ob (.dK kvs)) from I.hok _ _ h).2
        obtain ⟨_, _, _, _, o, es, n, ho, ⟨hc, _⟩, hd, _⟩ := ok
        exact eqAt_str_dict z t es n ho hc hd hu
    · exact eqAt_any I rx h hu r u hm
section
variable {X : Cx}
theorem op_inA (hu : X.A.units + 1 < cLine) : OpR X (compareOp .In) (rInA X.K false) := by
  intro pins s σ H x y v u Q I rx ry h
  obtain ⟨p, ss, rfl, hq, hx, q⟩ := h
  cases ry
  rcases hq with hq | hq
  · obtain ⟨its, r, pl, hz⟩ := I.list hq
    refine SeqAt.in_listAt (eqA x) pl.isList (fun w hw => eqAt_any I rx hx hu r w (by simpa using hw)) ⟨.bl _, H, I, rfl, ?_⟩
    rw [show its.toArray.any (eqA x) = its.any (eqA x) by simp, any_eqA r]
    exact q
  · obtain ⟨its, r, pl, hz⟩ := I.tuple hq
    refine SeqAt.in_tupleAt (eqA x) pl (fun w hw => eqAt_any I rx hx hu r w (by simpa using hw)) ⟨.bl _, H, I, rfl, ?_⟩
    rw [show its.toArray.any (eqA x) = its.any (eqA x) by simp, any_eqA r]
    exact q
theorem op_notInA (hu : X.A.units + 1 < cLine) : OpR X (compareOp .NotIn) (rInA X.K true) := by
  intro pins s σ H x y v u Q I rx ry h
  obtain ⟨p, ss, rfl, hq, hx, q⟩ := h
  cases ry
  rcases hq with hq | hq
  · obtain ⟨its, r, pl, hz⟩ := I.list hq
    refine SeqAt.notIn_listAt (eqA x) pl.isList (fun w hw => eqAt_any I rx hx hu r w (by simpa using hw)) ⟨.bl _, H, I, rfl, ?_⟩
    rw [show its.toArray.any (eqA x) = its.any (eqA x) by simp, any_eqA r]
    exact q
  · obtain ⟨its, r, pl, hz⟩ := I.tuple hq
    refine SeqAt.notIn_tupleAt (eqA x) pl (fun w hw => eqAt_any I rx hx hu r w (by simpa using hw)) ⟨.bl _, H, I, rfl, ?_⟩
    rw [show its.toArray.any (eqA x) = its.any (eqA x) by simp, any_eqA r]
    exact q
end
/-! ### == of a list (tuple) and the empty one -/
def rEqE (K : PySem.W.Frag) : R2 := fun x y H Q => ∃ a b xs, x = .ref a ∧ y = .ref b ∧ ((SqL K H a xs ∧ SqL K H b []) ∨ (SqT K H a xs ∧ SqT K H b [])) ∧ Q (.bl xs.isEmpty) H
def rNeE (K : PySem.W.Frag) : R2 := fun x y H Q => ∃ a b xs, x = .ref a ∧ y = .ref b ∧ ((SqL K H a xs ∧ SqL K H b []) ∨ (SqT K H a xs ∧ SqT K H b [])) ∧ Q (.bl (!xs.isEmpty)) H
theorem vals_nil {us : List Value} (r : Vals [] us) : us = [] := by cases r; rfl
theorem vals_isEmpty {xs : List V} {us : List Value} (r : Vals xs us) : us.isEmpty = xs.isEmpty := by cases r <;> rfl
section
variable {X : Cx}
theorem op_eqE (hu : X.A.units + 1 < cLine) : OpR X (compareOp .Eq) (rEqE X.K) := by
  intro pins s σ H x y v u Q I rx ry h
  obtain ⟨a, b, xs, rfl, rfl, hq, q⟩ := h
  cases rx
  cases ry
  have hu0 : X.A.units < cLine := by omega
  rcases hq with ⟨h1, h2⟩ | ⟨h1, h2⟩
  · obtain ⟨its, r, pl, hz⟩ := I.list h1
    obtain ⟨its2, r2, pl2, hz2⟩ := I.list h2
    have e2 := vals_nil r2
    subst e2
    cases xs with
    | nil =>
      have e1 := vals_nil r
      subst e1
      exact SeqAt.eq_listAt (e := fun _ => true) pl.isList pl2.isList rfl hu0 (fun j h1 => absurd h1 (by simp)) ⟨.bl _, H, I, rfl, q⟩
    | cons x xs =>
      cases r with
      | cons r0 rs => exact SeqAt.eq_list_lengthsAt pl.isList pl2.isList (by simp) hu0 ⟨.bl _, H, I, rfl, q⟩
  · obtain ⟨its, r, pl, hz⟩ := I.tuple h1
    obtain ⟨its2, r2, pl2, hz2⟩ := I.tuple h2
    have e2 := vals_nil r2
    subst e2
    refine SeqAt.eq_tupleAt (e := fun _ => true) pl pl2 hu0 (fun j h1 h2 => absurd h2 (by simp)) ⟨.bl xs.isEmpty, H, I, ?_, q⟩
    have e : ((List.range (min its.toArray.size ([] : List Value).toArray.size)).all (fun _ => true) && its.toArray.size == ([] : List Value).toArray.size) = xs.isEmpty := by
      rw [← vals_isEmpty r]
      cases its <;> simp
    rw [e]
    rfl
theorem op_neE (hu : X.A.units + 1 < cLine) : OpR X (compareOp .NotEq) (rNeE X.K) := by
  intro pins s σ H x y v u Q I rx ry h
  obtain ⟨a, b, xs, rfl, rfl, hq, q⟩ := h
  cases rx
  cases ry
  have hu0 : X.A.units < cLine := by omega
  rcases hq with ⟨h1, h2⟩ | ⟨h1, h2⟩
  · obtain ⟨its, r, pl, hz⟩ := I.list h1
    obtain ⟨its2, r2, pl2, hz2⟩ := I.list h2
    have e2 := vals_nil r2
    subst e2
    cases xs with
    | nil =>
      have e1 := vals_nil r
      subst e1
      exact SeqAt.RcNeAt.lists (e := fun _ => true) pl.isList pl2.isList rfl hu0 (fun j h1 => absurd h1 (by simp)) _ _ _ _ ⟨.bl _, H, I, rfl, q⟩
    | cons x xs =>
      cases r with
      | cons r0 rs => exact SeqAt.RcNeAt.lists_lengths pl.isList pl2.isList (by simp) hu0 _ _ _ _ ⟨.bl _, H, I, rfl, q⟩
  · obtain ⟨its, r, pl, hz⟩ := I.tuple h1
    obtain ⟨its2, r2, pl2, hz2⟩ := I.tuple h2
    have e2 := vals_nil r2
    subst e2
    refine SeqAt.RcNeAt.tuples (e := fun _ => true) pl pl2 hu0 (fun j h1 h2 => absurd h2 (by simp)) _ _ _ _ ⟨.bl (!xs.isEmpty), H, I, ?_, q⟩
    have e : ((List.range (min its.toArray.size ([] : List Value).toArray.size)).all (fun _ => true) && its.toArray.size == ([] : List Value).toArray.size) = xs.isEmpty := by
      rw [← vals_isEmpty r]
      cases its <;> simp
    show Value.bool _ = Value.bool _
    first
      | (rw [e])
      | (congr 1; revert e; cases its <;> simp)
end
/-! ### == of data of any depth up to 180 -/
section
variable {X : Cx}
theorem room_eq {k : Nat} {A : Around} (hr : Room k A) : A.units + 200 < cLine := by
  have := hr.un
  omega
end
/-! ### the head's facts, with a test of one's own -/
abbrev AlX : Type := Bool × He.AlD
def obsX (chk : PySem.W.Frag → Bool) (fa : List He.Fa) (fn : List He.DefD) (K : PySem.W.Frag) : AlX := (chk K, He.obsD fa fn K)
def valX (fn : List He.DefD) : AlX := (true, He.valD fn)
def SaysX (chk : PySem.W.Frag → Bool) (fa : List He.Fa) (fn : List He.DefD) (K : PySem.W.Frag) : Prop := obsX chk fa fn K = valX fn
section
variable {chk : PySem.W.Frag → Bool} {fa : List He.Fa} {fn : List He.DefD} {K : PySem.W.Frag}
theorem SaysX.d (c : SaysX chk fa fn K) : He.SaysD fa fn K := congrArg (fun z : AlX => z.2) c
theorem SaysX.test (c : SaysX chk fa fn K) : chk K = true := congrArg (fun z : AlX => z.1) c
end
end Tw

namespace Tw
open PySem PySem.Spec PyProof.Rows L2
/-! ### enumerate(tuple) -/
theorem meets_enumerate_newT (l : Addr) (o : Obj) (items : Array Value) (n : Nat) (hc : o.cls = .type "tuple") (hd : o.data = .seq items n) :
    Meets (Builtin.«enumerate.__new__» ⟨[.type "enumerate", .ref l], []⟩) (fun _ R s => s.heap.get? l = some o ∧
      R (.ok (.ret (.ref (s.heap.push { cls := .type "tuple_iterator", data := .fields #[.ref l, .int 0 0] }).objs.size)))
        { s with heap := (s.heap.push { cls := .type "tuple_iterator", data := .fields #[.ref l, .int 0 0] }).push { cls := .type "enumerate", data := .fields #[.none, .bool false, .ref s.heap.objs.size, rawInt 0, .none, .none] } }) :=
  .of_wp fun prog w A R s h => by
    obtain ⟨hp, g, d, tk, os⟩ := s
    obtain ⟨hl, h⟩ := h
    obtain ⟨c, dd, dt, sl⟩ := o
    simp only at hc hd
    subst hc hd
    have hsub := sub_enumerate
    have hL : Heap.IsTuple (Shared.heap ⟨hp, g, d, tk, os⟩) l items := ⟨_, hl, rfl, n, rfl⟩
    wp_walk using AutoSeq1.wpAny_loadPart' hl
    refine wpAny_stack_any fun st => wpAny_pure ?_
    split
    · rename_i c _ _ _ _ _
      cases (c == Value.type "enumerate")
      · wp_walk using AutoSeq1.wpAny_loadPart' hl, wpAny_pyIter_tuple hL
        exact ⟨_, rfl, h⟩
      · wp_walk using AutoSeq1.wpAny_loadPart' hl, wpAny_pyIter_tuple hL
        exact ⟨_, rfl, h⟩
    · wp_walk using AutoSeq1.wpAny_loadPart' hl, wpAny_pyIter_tuple hL
      exact ⟨_, rfl, h⟩
section
variable {prog : Program} {w : World} {A : Around} {E : Value → Shared → Prop} {s : Shared}
theorem call_enumerate_tuple {l : Addr} {items : Array Value} {Q : Value → Shared → Prop} (hL : s.heap.IsTuple l items)
    (h : ∀ h', IsEnum h' (s.heap.objs.size + 1) s.heap.objs.size 0 .none → h'.IsTupleIter s.heap.objs.size l 0 → h'.objs.size = s.heap.objs.size + 2 →
      (∀ b o, s.heap.get? b = some o → h'.get? b = some o) → Q (.ref (s.heap.objs.size + 1)) { s with heap := h' }) :
    wpAny (model prog w) A (call (.type "enumerate") [.ref l]) Q E s := by
  obtain ⟨o, hl, hc, n, hd⟩ := hL
  refine callType_new F.called_enumerate (by decide) (F.typeCall_enumerate_1 _) (F.newCall_enumerate_1 _) (fun obj => F.args_object_init_2 obj _) F.entry_enumerate_new
    (meets_enumerate_newT l o items n hc hd) ⟨hl, ?_⟩
  have hz : (s.heap.push { cls := .type "tuple_iterator", data := .fields #[.ref l, .int 0 0] }).objs.size = s.heap.objs.size + 1 := Heap.size_push ..
  show _ ∧ _
  rw [hz]
  have he : IsEnum ((s.heap.push { cls := .type "tuple_iterator", data := .fields #[.ref l, .int 0 0] }).push
      { cls := .type "enumerate", data := .fields #[.none, .bool false, .ref s.heap.objs.size, rawInt 0, .none, .none] }) (s.heap.objs.size + 1) s.heap.objs.size 0 .none := by
    have := Heap.get?_push_size (s.heap.push { cls := .type "tuple_iterator", data := .fields #[.ref l, .int 0 0] })
      (o := { cls := .type "enumerate", data := .fields #[.none, .bool false, .ref s.heap.objs.size, rawInt 0, .none, .none] }) rfl
    rw [hz] at this; exact this
  refine ⟨⟨_, he, rfl⟩, h _ he ⟨_, Heap.get?_push_of_some _ (Heap.get?_push_size _ rfl), rfl, rfl⟩ (by rw [Heap.size_push, hz]) fun b o x => Heap.get?_push_of_some _ (Heap.get?_push_of_some _ x)⟩
end
def IteT (K : PySem.W.Frag) (a : Addr) : It :=
  ⟨fun i H => ∃ (xs : List V) (x : V), SqT K H a xs ∧ xs[i]? = some x, fun i H v H' => ∃ T x, v = .ref T ∧ H T = none ∧ H' = upd H T (.tup [.int (i : Nat), x]) ∧ ∀ xs, SqT K H a xs → xs[i]? = some x, fun i H => ∃ xs : List V, SqT K H a xs ∧ xs.length ≤ i⟩
theorem turn_enumT {P : Program} {w : World} {K : PySem.W.Frag} {elts : List Expr} {kk : Nat} {tpos : Pos} (a e it : Addr) :
    Turn P w K (.Tuple elts kk tpos) (IteT K a) [e, it] e (fun i h => (∃ old, IsEnum h e it ((i : Nat) : Int) old) ∧ h.IsTupleIter it a i ∧ e ≠ it) where
  mem := by simp
  obj := fun i h st b hb => by
    obtain ⟨⟨old, he⟩, ⟨o, ho, hc, hd⟩, _⟩ := st
    have e' : b = e ∨ b = it := by simpa using hb
    rcases e' with z | z
    · rw [z]; exact ⟨_, he, fun v q => nomatch q⟩
    · rw [z]; exact ⟨o, ho, fun v q => by rw [hd] at q; cases q⟩
  keep := fun i h h' st k => let ⟨⟨old, he⟩, hi, hne⟩ := st; ⟨⟨old, k e (by simp) _ he⟩, hi.at fun o q => k it (by simp) o q, hne⟩
  item := by
    intro X hP hw hK hc i pins s σ H E I hf st hg
    subst hP hw hK
    obtain ⟨⟨old, he⟩, hit, hne⟩ := st
    obtain ⟨xs, x, hq, hx⟩ := hg
    obtain ⟨its, rv, p, hz⟩ := I.tuple hq
    obtain ⟨u, hu, ru⟩ := rv.get hx
    have hel : e < s.heap.objs.size := Heap.lt_size he
    have hil : it < s.heap.objs.size := by obtain ⟨_, q, _⟩ := hit; exact Heap.lt_size q
    have pT : s.heap.IsTuple a its.toArray := p
    have nai : a ≠ it := by
      rintro rfl
      obtain ⟨o1, h1, c1, _⟩ := hit
      obtain ⟨o2, h2, c2, _⟩ := pT
      rw [h1] at h2
      cases h2
      rw [c1] at c2
      exact absurd c2 (by decide)
    have nae : e ≠ a := by
      rintro rfl
      obtain ⟨o2, h2, c2, _⟩ := pT
      have h1 : s.heap.get? e = some _ := he
      rw [h1] at h2
      cases h2
      exact absurd c2 (by show ¬ Value.type "enumerate" = Value.type "tuple"; decide)
    have hin : i < its.toArray.size := by
      have := (List.getElem?_eq_some_iff.mp hu).1
      rw [List.size_toArray]
      exact this
    have hA : X.A.in1.handled = none := I.ok.hd hc
    refine wpAny_pyNext_enum_itemD (Draws.tuple (prog := X.prog) (w := X.w) (A := X.A.in1) hA it a nai its.toArray) he ⟨hit, pT⟩ hin hne (by simp [hne, nae]) fun x' h' tk hP' ho hit' hT hsz hk => ?_
    have ex : x' = u := by
      have : its.toArray[i]? = some u := by simpa using hu
      rw [this] at hP'
      exact (Option.some.inj hP').symm
    subst ex
    refine ⟨_, rfl, wpAny_letOwnedTupleGo_enum (s := { s with heap := h', toks := tk + 1 }) ho fun h'' he' sb => ?_⟩
    have hT2 : h''.get? s.heap.objs.size = some { cls := .type "tuple", data := .seq #[.int i tk, x'] } := (sb.2 _ (Nat.ne_of_gt hel)).trans hT
    have new : ObjOk X.prog X.w (upd H s.heap.objs.size (.tup [.int (i : Nat), x])) h'' s.heap.objs.size (.tup [.int (i : Nat), x]) :=
      ⟨by show 2 ≤ sizeLine; decide, [.int i tk, x'], .cons ⟨_, rfl⟩ (.cons ru .nil), ⟨_, hT2, rfl, _, rfl⟩⟩
    have I1 : Inv X pins σ (upd H s.heap.objs.size (.tup [.int (i : Nat), x])) { s with heap := h'', toks := tk + 1 } :=
      I.turnedNew (ch := [e, it]) (fun b ob hb q => (sb.2 b (fun z => hb (by simp [z]))).trans (hk b ob (fun z => hb (by simp [z])) (fun z => hb (by simp [z])) q)) hf (Nat.le_refl _) new
    refine ⟨.ref s.heap.objs.size, _, I1, rfl, ⟨_, x, rfl, I.hok.fresh (Nat.le_refl _), rfl, fun ys hy => by rw [I.tuple_inj hy hq]; exact hx⟩, ⟨⟨x', ?_⟩, hit'.1.at fun o q => (sb.2 it (Ne.symm hne)).trans q, hne⟩, fun b hb => ?_⟩
    · have e1 : ((i + 1 : Nat) : Int) = (i : Int) + 1 := by omega
      rw [e1]; exact he'
    · have hb' : b < s.heap.objs.size := by
        have e' : b = e ∨ b = it := by simpa using hb
        rcases e' with z | z
        · rw [z]; exact hel
        · rw [z]; exact hil
      rw [upd_ne (Nat.ne_of_lt hb')]
      exact (hf b hb).1
  done := by
    intro X hP hw hK hc i pins s σ H E I hf st hg
    subst hP hw hK
    obtain ⟨⟨old, he⟩, hit, hne⟩ := st
    obtain ⟨xs, hq, hx⟩ := hg
    obtain ⟨its, rv, p, hz⟩ := I.tuple hq
    obtain ⟨f0, f1, f2, f3, f4, f5⟩ := hf it (by simp)
    have hl := rv.length
    have pT : s.heap.IsTuple a its.toArray := p
    have hT : s.TypeIs (.ref e) "enumerate" := ⟨_, he, rfl⟩
    unfold pyNext
    refine wpAny_bind (wpAny_attempt (wpAny_callSpecial?_slot (name := Str.ofString "__next__") hT F.slot_enumerate_next
      (wpAny_call_entry F.slot_enumerate_next hT F.entry_enumerate_next ?_ (F.args_enumerate_next_1 _))))
    show wpAny _ _ (field (.ref e) 2 >>= _) _ _ _
    refine wpAny_bind (wpAny_field he rfl (x := .ref it) rfl ?_)
    have hA : X.A.in1.handled = none := I.ok.hd hc
    refine wpAny_bind (wpAny_nextOf_tuple_end hA hit pT (by simp; omega) fun h' x he' hx' => ?_)
    obtain ⟨o, ho, hc'⟩ := hx'
    refine wpAny_bind (wpAny_isInstance (T := "StopIteration") (b := true) ⟨o, ho, hc'⟩ isSubtype_stop ?_)
    exact wpAny_pure ⟨rfl, I.turned (t' := s.toks) (fun b o hb q => he' b o hb q) f0 f1 f3 f4 f5⟩
  self := fun A i s Q E st h => let ⟨⟨_, he⟩, _⟩ := st; wpAny_pyIter_enum he h
def iEnumT (K : PySem.W.Frag) (ta : TA) : TI := fun σ H R => ta σ H fun vs H1 => ∃ a xs, vs = [.ref a] ∧ SqT K H1 a xs ∧ R (IteT K a) H1
theorem pi_enumT {X : Cx} {e : Expr} {ta : TA} {p pos tpos : Pos} {elts : List Expr} {kk : Nat} (hg : Gl X "enumerate") (hm : X.mg "enumerate" = none) (ha : PA X [e] ta) (hs : starEach [e] X.env = [(false, eval e X.env)] := by rfl) :
    PI X (.Tuple elts kk tpos) (.Call (.Name "enumerate" p) [e] [] pos) (iEnumT X.K ta) := by
  refine ⟨fun pins s σ H R I h => ?_⟩
  refine Call_ (ld_blt I hg hm boot_enumerate (PyProof.Rows.callWith_type1 (thn (ha.run pos pins s σ H _ I h) fun us s1 ⟨vs, H1, I1, r1, q1⟩ => ?_) hs rfl))
  obtain ⟨a, xs, ex, hq, q⟩ := q1
  subst ex
  cases r1 with
  | cons r rr =>
    cases rr
    cases r
    obtain ⟨its, rv, p', hz⟩ := I1.tuple hq
    refine call_enumerate_tuple (show s1.heap.IsTuple a its.toArray from p') fun h' he hit hsz hk => wpAny_pyIter_enum he ?_
    have I2 : Inv X pins σ H1 { s1 with heap := h' } := I1.kept (t' := s1.toks) hk
    refine ⟨s1.heap.objs.size + 1, [s1.heap.objs.size + 1, s1.heap.objs.size], _, _, H1, rfl, I2, turn_enumT a (s1.heap.objs.size + 1) s1.heap.objs.size, ⟨⟨.none, he⟩, hit, Nat.succ_ne_self _⟩, fun b hb => ?_, q⟩
    have e' : b = s1.heap.objs.size + 1 ∨ b = s1.heap.objs.size := by simpa using hb
    have hle : s1.heap.objs.size ≤ b := by
      rcases e' with z | z
      · rw [z]; exact Nat.le_add_right _ _
      · rw [z]; exact Nat.le_refl _
    exact I1.fpOk hle (I1.hok.fresh hle)
theorem walk_enumT {K : PySem.W.Frag} {a : Addr} {xs : List V} : Walk (IteT K a) xs.length (fun H => SqT K H a xs) (YPair (fun i => some (.int (i : Nat))) (fun i => xs[i]?)) where
  goes := fun i H hi h => ⟨xs, xs[i], h, List.getElem?_eq_getElem hi⟩
  stops := fun H h => ⟨xs, h, Nat.le_refl _⟩
  yields := fun i H v H' hi h ⟨T, x, e1, e2, e3, e4⟩ => ⟨T, _, x, e1, e2, e3, rfl, e4 xs h⟩
/-! ### for a, b in e.items(), the dict made by e itself: it stands locked from then on -/
def iItemsF (td : TE) : TI := fun σ H R => td σ H fun x H1 => ∃ d kvs, x = .ref d ∧ H1 d = some (.dK kvs) ∧ ∀ o, R (Iti d o kvs) (upd H1 d (.frz o (.dK kvs)))
theorem pi_itemsF {X : Cx} {e : Expr} {td : TE} {apos cpos : Pos} {elts : List Expr} {kk : Nat} {tpos : Pos} (he : PE X e td) (hbase : attributeBase e "items" X.env (eval e X.env) = eval e X.env := by rfl) (hline : (apos.endLine == cpos.line) = true := by rfl) :
    PI X (.Tuple elts kk tpos) (.Call (.Attribute e "items" apos) [] [] cpos) (iItemsF td) := by
  refine ⟨fun pins s σ H R I h => ?_⟩
  refine wpAny_Call_method (T := "dict") (id := "dict.items") hbase rfl hline F.plainAttrs_dict F.slot_dict_items F.type_dict_items (thn (he.run pins s σ H _ I h) fun u s1 ⟨x, H1, I1, rx, d, kvs, ex, hd, q⟩ => ?_)
  subst ex
  obtain rfl : u = Value.ref d := rx
  obtain ⟨o, I1⟩ := I1.lock hd trivial
  have hd : (upd H1 d (.frz o (.dK kvs))) d = some (.frz o (.dK kvs)) := upd_same
  replace q := q o
  obtain ⟨hs, hgd, hx, es, ep, vs, hdt, hsz, kv, hm⟩ := I1.frzK hd
  have hl : kvs.length = vs.length := Paired.length kv
  refine ⟨hm.dictOf.typeIs, hm.dictOf.mapOf.noDict, ?_⟩
  have I2 : Inv X pins σ (upd H1 d (.frz o (.dK kvs))) { s1 with heap := s1.heap.push { cls := .type "dict_items", data := .fields #[.ref d] } } := I1.kept (t' := s1.toks) fun b ob q => Heap.get?_push_of_some _ q
  have fin : wpAny (model X.prog X.w) X.A (pyIter (.ref s1.heap.objs.size)) (PIE X pins σ (.Tuple elts kk tpos) R) X.xe { s1 with heap := s1.heap.push { cls := .type "dict_items", data := .fields #[.ref d] } } := by
    refine wpAny_pyIter_items (d := d) (knd := mixKind X.prog X.w) ⟨_, Heap.get?_push_size _ rfl, rfl, rfl⟩ (hm.push _) (pi_one (tk := s1.toks) I2 _ (turn_items _ hdt) ⟨.none, .none, ?_⟩ q)
    rw [hl]
    exact Heap.get?_push_size _ rfl
  show wpAny _ _ (callWith cpos (.builtin "dict.items") [.ref d] [] []) _ X.xe s1
  exact method_meetsIn F.slot_dict_items F.entry_dict_items rfl (PySem.evalArgs_none ⟨rfl, hm.dictOf.typeIs, F.args_dict_items_1 _, _, meets_dict_items (mixKind X.prog X.w) d hs, ⟨vs, hm.dictOf⟩, fin⟩)
/-! ### xs.extend(tuple) -/
/-! ### t[::-1] -/
section
variable {prog : Program} {w : World} {A : Around} {E : Value → Shared → Prop} {s : Shared}
end
end Tw

namespace Tw
open PySem PySem.Spec PyProof.Rows L2
/-! ### defs that are called while no repr is under way -/
/-- room, and nothing under way -/
structure Rm (k : Nat) (A : Around) : Prop where
  rm : Room k A
  gd : A.guards = some []
theorem Rm.mono {j k : Nat} {A : Around} (r : Rm k A) (h : j ≤ k) : Rm j A := ⟨r.rm.mono h, r.gd⟩
theorem Rm.deep {k : Nat} {A : Around} (r : Rm (k + 1) A) (env : Env) : Rm k (A.deeper env) := ⟨r.rm.deeper env, r.gd⟩
structure FnG (P : Program) (w : World) (K : PySem.W.Frag) (mg : Str → Option Value) (base : Heap) (CX : CXT) (k : Nat) (f : Addr) (fd : FuncData) (ps : List Str) (sp : Sp) : Prop where
  ln : ∀ vs H Q E, sp vs H Q E → vs.length = ps.length
  go : ∀ (A : Around) (outer : List Env) (s : Shared) (H : Hp) (args : Args) (us : List Value) (vs : List V) (Q : VK) (E : XK), Rm k A → Env0 P w K mg base A outer s H → BindsTo s fd args (ps.zip us) → Vals vs us → sp vs H Q E →
    codeAny (model P w) A (.call (.ref f) args) (CR CX outer P w H s Q E) s
section
variable {P : Program} {w : World} {K : PySem.W.Frag} {mg : Str → Option Value} {base : Heap} {CX : CXT} {k : Nat} {f : Addr} {fd : FuncData} {N ps : List Str} {sp : Sp}
theorem FnG.mono {j : Nat} (F : FnG P w K mg base CX j f fd ps sp) (h : j ≤ k) : FnG P w K mg base CX k f fd ps sp :=
  ⟨F.ln, fun A outer s H args us vs Q E r => F.go A outer s H args us vs Q E (r.mono h)⟩
theorem FnG.imp {sp' : Sp} (F : FnG P w K mg base CX k f fd ps sp) (h : ∀ vs H Q E, sp' vs H Q E → sp vs H Q E) : FnG P w K mg base CX k f fd ps sp' :=
  ⟨fun vs H Q E q => F.ln vs H Q E (h vs H Q E q), fun A outer s H args us vs Q E r e b v q => F.go A outer s H args us vs Q E r e b v (h vs H Q E q)⟩
theorem fnG_of {name qual : Str} {params : Arguments} {body : List Stmt} {scope : Scope} {dV kV doc pm cdv ct oc : Value} {an od : Option Addr} {osl : Array (Option Value)}
    (lk : K.lookup f = some ⟨oc, od, .func (PySem.W.fnOf name qual params body scope dV kV doc pm an cdv ct), osl⟩) (hcd : PySem.W.codeIn K cdv qual = true) (S : FnScope N ps scope) (ln : ∀ vs H Q E, sp vs H Q E → vs.length = ps.length)
    (hbody : ∀ (A : Around) (outer : List Env) (s : Shared) (H : Hp) (vs : List V) (Q : VK) (E : XK), Rm k (A.deeper (envOfC qual scope s.heap.objs.size f cdv)) → sp vs H Q E →
      ∃ t, PSs (cxOf CX P w K mg base N qual scope f cdv A outer s H E) body t ∧ t { nx := fun _ H' => Q .non H', rt := Q } (start N vs) H) :
    FnG P w K mg base CX (k + 1) f (PySem.W.fnOf name qual params body scope dV kV doc pm an cdv ct) ps sp := by
  constructor
  · exact ln
  intro A outer s H args us vs Q E rm env0 hbind rv hsp
  have vl := ln _ _ _ _ hsp
  have kin : K.In s.heap := env0.mod.kin.keeps fun z y q => (env0.bs z y q).1
  have nol : s.heap.NoLimit := env0.mod.nolimit.keeps fun z y q => (env0.bs z y q).1
  have kinds : ∀ z ∈ ps.zip us, scope.names.lookup z.1 = some .local ∨ (scope.names.lookup z.1 = some .cell ∧ ((cellsFrom (s.heap.objs.size + 1) scope.names []).lookup z.1).isSome = true) := by
    rintro ⟨n, v⟩ hz
    exact (S.par n (List.of_mem_zip hz).1).imp id fun c => ⟨c, PySem.W.cellsFrom_some _ _ _ (.inl c)⟩
  refine codeAny_call_function rm.rm.depth (kin _ _ lk) rfl S.co S.gen rfl (PySem.W.codeRec_of kin hcd) ?_
  refine hbind _ _ _ _ (wpAny_newFunctionEnv_cells S.kind kinds ?_)
  rintro env rfl s1 x
  obtain ⟨t, der, prem⟩ := hbody A outer s H vs Q E (rm.deep _) hsp
  have inv : Inv (cxOf CX P w K mg base N qual scope f cdv A outer s H E) [] (start N vs) H s1 := inv_start S rm.rm.hd env0 vl rv x
  refine ⟨nol.keeps x.toInCall.keep, codeAny_func (wpAny_mono (der.run [] s1 (start N vs) H _ inv prem) ?_ fun _ _ q => q)⟩
  intro fl s' hs
  cases fl with
  | brk => exact absurd hs fun ⟨_, _, _, q⟩ => q
  | cont => exact absurd hs fun ⟨_, _, _, q⟩ => q
  | next =>
    obtain ⟨_, H', J, q⟩ := hs
    exact ⟨V.non, H', J.os, J.bare, J.base, J.hok, rfl, q⟩
  | ret u =>
    obtain ⟨v, _, H', J, rv, q⟩ := hs
    exact ⟨v, H', J.os, J.bare, J.base, J.hok, rv, q⟩
theorem funD_okG {x qual : Str} {params : Arguments} {body : List Stmt} {scope : Scope} (F : FunD K x qual params body scope [] [] f fd) (S : FnScope N ps scope) (ln : ∀ vs H Q E, sp vs H Q E → vs.length = ps.length)
    (hbody : ∀ (cdv : Value) (A : Around) (outer : List Env) (s : Shared) (H : Hp) (vs : List V) (Q : VK) (E : XK), Rm k (A.deeper (envOfC qual scope s.heap.objs.size f cdv)) → sp vs H Q E →
      ∃ t, PSs (cxOf CX P w K mg base N qual scope f cdv A outer s H E) body t ∧ t { nx := fun _ H' => Q .non H', rt := Q } (start N vs) H) : FnG P w K mg base CX (k + 1) f fd ps sp := by
  obtain ⟨oc, od, dV, kV, doc, pm, an, cdv, ct, osl, rfl, lk, hcd, _, _⟩ := F.ex
  exact fnG_of lk hcd S ln (hbody cdv)
end
section
variable {X : Cx} {CX : CXT} {k : Nat} {f : Addr} {fd : FuncData} {ps : List Str} {sp : Sp} {E : XK} {x : Str} {p pos : Pos} {e : Expr} {es : List Expr} {t : TA}
theorem run_fnG {pins : List (Addr × Obj)} {σ : L2.St} {H : Hp} {s : Shared} {Q : VK} {us : List Value} {vs : List V} (F : FnG X.prog X.w X.K X.mg X.base CX k f fd ps sp) (hr : Rm k X.A) (hb : Binds X.K fd ps []) (hx : Passes CX X E)
    (I : Inv X pins σ H s) (rv : Vals vs us) (h : sp vs H Q E) : wpAny (model X.prog X.w) X.A (call (.ref f) us) (EP X pins σ Q) X.xe s := by
  have hl : us.length = ps.length := rv.length.symm.trans (F.ln _ _ _ _ h)
  have hb' := hb s us I.kIn (by rw [List.append_nil]; exact hl)
  rw [List.append_nil] at hb'
  refine wpAny_call (codeAny_mono (F.go X.A X.stack s H ⟨us, []⟩ us vs Q E hr I.env0 hb' rv h) ?_)
  intro r s' q
  match r, q with
  | .error e, q => exact hx pins σ H s e s' I q
  | .ok (.ret u), q => exact I.after q
theorem pe_cG (F : FnG X.prog X.w X.K X.mg X.base CX k f fd ps sp) (hr : Rm k X.A) (hg : Gl X x) (hm : X.mg x = some (.ref f)) (hk : PySem.W.keepIn X.K (.ref f) = true) (hb : Binds X.K fd ps []) (hx : Passes CX X E)
    (ha : PA X (e :: es) t) (hdb : (x == ("__debug__" : Str)) = false := by decide) (he : starEach (e :: es) X.env = (false, eval e X.env) :: starEach es X.env := by rfl) (hpl : (backTo pos (starEach es X.env)).any (·.1) = false := by rfl) :
    PE X (.Call (.Name x p) (e :: es) [] pos) (tCall sp [] E t) := by
  constructor
  intro pins s σ H Q I h
  refine wpAny_Call_Name_kw (ld_glob I hg hm (PySem.W.callWith_K (h₀ := X.base) I.ok.mod.kin hk (thn (ha.run pos pins s σ H _ I h) ?_) he hpl) hdb)
  rintro us s1 ⟨vs, H1, I1, r, q⟩
  rw [List.append_nil] at q
  exact ⟨I1.kIn, run_fnG F hr hb hx I1 r q⟩
end
/-- a def that may be called by its name while nothing is under way -/
structure CalG (P : Program) (w : World) (K : PySem.W.Frag) (mg : Str → Option Value) (base : Heap) (k : Nat) (x : Str) (sp : Sp) : Prop where
  ex : ∃ (f : Addr) (fd : FuncData) (ps : List Str), FnG P w K mg base CX0 k f fd ps sp ∧ mg x = some (.ref f) ∧ PySem.W.keepIn K (.ref f) = true ∧ Binds K fd ps []
theorem calG_of {P : Program} {w : World} {K : PySem.W.Frag} {mg : Str → Option Value} {base : Heap} {x : Str} {st : Stmt} {N ps : List Str} {k : Nat} {sp : Sp} (D : DefAt K mg x st)
    (hb : ∀ (kV doc pm : Value) (an : Option Addr) (cdv ct : Value) (us : List Value), us.length = ps.length → bindArgs (PySem.W.fnOf x x (defArgs st) (defBody st) (defScope st) .none kV doc pm an cdv ct) ⟨us, []⟩ = pure (ps.zip us))
    (S : FnScope N ps (defScope st)) (len : ∀ vs H Q E, sp vs H Q E → vs.length = ps.length) {t : TS}
    (body : ∀ (cdv : Value) (f : Addr) (A : Around) (outer : List Env) (s : Shared) (H : Hp) (E : XK), Rm k (A.deeper (envOfC x (defScope st) s.heap.objs.size f cdv)) →
      PSs (cxOf CX0 P w K mg base N x (defScope st) f cdv A outer s H E).nox (defBody st) t)
    (pure_ : ∀ (vs : List V) (H : Hp) (Q : VK) (E : XK), sp vs H Q E → t { nx := fun _ H' => Q .non H', rt := Q } (start N vs) H) : CalG P w K mg base (k + 1) x sp := by
  obtain ⟨f, fd, F, g⟩ := D
  exact ⟨f, fd, ps, funD_okG F S len fun cdv A outer s H vs Q E hr h => ⟨t, (body cdv f A outer s H E hr).nox, pure_ vs H Q E h⟩, g, F.kp, F.bindsN hb⟩
theorem pe_cg {X : Cx} {k j : Nat} {x : Str} {sp : Sp} {p pos : Pos} {e : Expr} {es : List Expr} {t : TA} (c : CalG X.prog X.w X.K X.mg X.base k x sp) (hr : Rm j X.A) (hk : k ≤ j) (hg : Gl X x) (ha : PA X (e :: es) t)
    (hdb : (x == ("__debug__" : Str)) = false := by decide) (he : starEach (e :: es) X.env = (false, eval e X.env) :: starEach es X.env := by rfl) (hpl : (backTo pos (starEach es X.env)).any (·.1) = false := by rfl) :
    PE X (.Call (.Name x p) (e :: es) [] pos) (tCall sp [] E0 t) := by
  obtain ⟨f, fd, ps, F, hm, kp, b⟩ := c.ex
  exact pe_cG (F.mono hk) hr hg hm kp b pass0 ha hdb he hpl
/-! ### the law, called by the claim's caller -/
theorem law_callG {P : Program} {w : World} {K : PySem.W.Frag} {mg mb : Str → Option Value} {CX : CXT} {k : Nat} {fa a : Addr} {fd : FuncData} {x : Str} {sp : Sp} {s₁ : Shared} {vs : List Value} {ns : List Int}
    (kin : K.In s₁.heap) (gns : s₁.heap.Ns mainGlobals mg) (bns : s₁.heap.Ns builtinsNs mb) (bmb : ∀ x : Str, x ≠ "__name__" → mb x = bootBuiltins x) (nol : s₁.heap.NoLimit) (g0 : s₁.gens = #[])
    (ha : s₁.heap.get? a = some { cls := .type "list", data := .seq vs.toArray }) (ia : IntsAre vs ns) (few : ns.length ≤ sizeLine) (rm : Rm k callerA)
    (F : ∀ base : Heap, K.In base → base.Ns mainGlobals mg → FnG P w K mg base CX k fa fd [x] sp) (bnd : ∀ (s : Shared) (u : Value), BindsTo s fd ⟨[u], []⟩ [(x, u)])
    (hsp : ∀ H : Hp, Only H → SqL K H a (ns.map V.int) → sp [.ref a] H (fun v _ => v = .bl true) fun _ _ _ => False) (nox : ∀ H e s', CX [] H s₁ (fun _ _ _ => False) e s' → False) :
    codeAny (model P w) callerA (.call (.ref fa) ⟨[.ref a], []⟩) (fun r s' => r = .ok (.ret (.bool true)) ∧ OldK s₁.heap s'.heap ∧ s'.os = s₁.os ∧ AllBare s'.gens) s₁ := by
  have ia' := vals_ints ia
  have len := ia.length
  have main : ∀ H : Hp, Only H ∧ SqL K H a (ns.map V.int) ∧ HOk P w H s₁.heap ∧ (∀ b, H b ≠ none → b = a ∧ K.lookup a = none) →
      codeAny (model P w) callerA (.call (.ref fa) ⟨[.ref a], []⟩) (fun r s' => r = .ok (.ret (.bool true)) ∧ OldK s₁.heap s'.heap ∧ s'.os = s₁.os ∧ AllBare s'.gens) s₁ := by
    rintro H ⟨hO, hS, hok, hA⟩
    have un : ∀ b, b ≠ a → H b = none := fun b n => Classical.byContradiction fun z => n (hA b z).1
    have keep : ∀ {b : Addr} {o : Obj}, s₁.heap.get? b = some o → b ≠ a ∨ K.lookup a ≠ none → (hidT s₁.heap H).get? b = some o := fun {b o} e z => hidT_get e (by
      rcases z with z | z
      · exact un b z
      · exact Classical.byContradiction fun y => z (hA b y).2)
    have nsk : ∀ {b : Addr} {m : Str → Option Value}, s₁.heap.Ns b m → (hidT s₁.heap H).Ns b m := by
      rintro b m ⟨o, es, ep, e, d, r⟩
      refine ⟨o, es, ep, keep e (.inl ?_), d, r⟩
      rintro rfl
      have z := ha.symm.trans e
      cases z
      cases d
    have kin' : K.In (hidT s₁.heap H) := fun b o e => keep (kin b o e) (by
      by_cases z : b = a
      · subst z
        exact .inr (by rw [e]; simp)
      · exact .inl z)
    obtain ⟨mc, l1, l2⟩ := nol
    have env : Env0 P w K mg (hidT s₁.heap H) callerA [] s₁ H :=
      { frames := rfl, mod := ⟨kin', nsk gns, ⟨mb, nsk bns, bmb⟩, mc, nsk l1, l2⟩, bs := fun b o e => of_hidT e, bsz := Nat.le_of_eq (hidT_size _ _), funs := trivial, frf := (fun b z => nomatch z), hok := hok, bare := .of_eq g0 }
    have run := (F _ kin' (nsk gns)).go callerA [] s₁ H ⟨[.ref a], []⟩ [.ref a] [.ref a] _ _ rm env (bnd s₁ (.ref a)) (.cons rfl .nil) (hsp H hO hS)
    refine codeAny_mono run ?_
    intro r s' q
    match r, q with
    | .error e, q => exact (nox H e s' q).elim
    | .ok (.ret u), q =>
      obtain ⟨v, H', os, bare, un', hok', rv, qv⟩ := q
      have qv' : v = .bl true := qv
      subst qv'
      have ru : u = Value.bool true := rv
      subst ru
      refine ⟨rfl, OldK.of_keep ?_, os, bare⟩
      intro b o e
      rcases hO b with z | ⟨ob, xs, z⟩
      · exact un'.keep b o e z (fun y => nomatch y) (fun y => nomatch y)
      · have e1 := (hok b _ z).1
        have e2 := (hok' b _ (un'.frzs b ob _ z)).1
        exact e2.trans (e1.symm.trans e)
  by_cases hk : K.lookup a = none
  · refine main (fun b => if b = a then some (.frz { cls := .type "list", data := .seq vs.toArray } (.lst (ns.map V.int))) else none) ⟨fun b => ?_, .inl (.inr ⟨{ cls := .type "list", data := .seq vs.toArray }, if_pos rfl⟩), fun b u z => ?_, fun b z => ?_⟩
    · by_cases y : b = a
      · exact .inr ⟨_, _, if_pos y⟩
      · exact .inl (if_neg y)
    · by_cases y : b = a
      · subst y
        have z' := (if_pos rfl).symm.trans z
        cases z'
        exact ⟨ha, by rw [List.length_map]; exact few, vs, _, ia', ha⟩
      · exact nomatch ((if_neg y).symm.trans z)
    · by_cases y : b = a
      · exact ⟨y, hk⟩
      · exact absurd (if_neg y) z
  · obtain ⟨o, ho⟩ := Option.ne_none_iff_exists'.mp hk
    have z := ha.symm.trans (kin a o ho)
    cases z
    exact main (fun _ => none) ⟨fun _ => .inl rfl, .inr ⟨_, vs.toArray, _, ho, rfl, rfl, rfl, by rw [List.size_toArray, len]; exact few, by simpa using ia'⟩, (fun b u z => nomatch (show (none : Option HO) = some u from z)), fun b z => absurd rfl z⟩
theorem walk_ofG {l : PySem.W.OpenLaw} {n k : Nat} {q : Program} {loose : List Str} {XP : (Str → Option Value) → Heap → Prop} {YP : World → Heap → Prop} {d : DefRec} {CX : CXT} {x : Str}
    (hn : l.most = some n) (small : n ≤ sizeLine) (nodef : d.params.defaults = []) (rm : Rm k callerA)
    (F : ∀ (w : World) (mg : Str → Option Value) (fa : Addr) (h : Heap), YP w h → h.Ns mainGlobals mg → mg d.name = some (.ref fa) →
      ∃ (K : PySem.W.Frag) (fd : FuncData) (sp : Sp), K.In h ∧ (∀ (s : Shared) (u : Value), BindsTo s fd ⟨[u], []⟩ [(x, u)]) ∧
        (∀ (H : Hp) (a : Addr) (ns : List Int), ns.length ≤ n → Only H → SqL K H a (ns.map V.int) → sp [.ref a] H (fun v _ => v = .bl true) fun _ _ _ => False) ∧
        ∀ base : Heap, K.In base → base.Ns mainGlobals mg → FnG l.prog w K mg base CX k fa fd [x] sp)
    (nox : ∀ (H : Hp) (s : Shared) (e : Value) (s' : Shared), CX [] H s (fun _ _ _ => False) e s' → False) :
    PySem.W.WalkO q loose XP YP l.row.toRowW d [] (fun f vs => PySem.call f vs) := by
  refine Att.attach_call hn nodef ?_
  intro w s₀ s₁ mg mb fa o pm cd doc a vs ns G Y ho hd hcd hmg hobj hints hlen hg
  obtain ⟨K, fd, sp, kin, bnd, hsp, hF⟩ := F w mg fa _ Y G.T.g hmg
  exact law_callG kin G.T.g G.T.b G.T.builtins G.T.nolimit hg hobj hints (Nat.le_trans hlen small) rm hF bnd (fun H hO hS => hsp H a ns hlen hO hS) fun H e s' => nox H s₁ e s'
end Tw

namespace Tw
open PySem PySem.Spec PyProof.Rows L2
/-! ### repr of data -/
section
variable {X : Cx} {k : Nat}
end
end Tw

namespace Tw
open PySem PySem.Spec PyProof.Rows L2
/-! ### min, max of two ints -/
/-! ### t.index(text) -/
/-! ### list(d.keys()) -/
theorem paired_getR {α β : Type} {R : α → β → Prop} : ∀ {xs : List α} {ys : List β} {i : Nat} {y : β}, Paired R xs ys → ys[i]? = some y → ∃ x, xs[i]? = some x ∧ R x y
  | _, _, _, _, .nil, e => by cases e
  | _, _, 0, _, .cons h _, e => ⟨_, rfl, by cases e; exact h⟩
  | _, _, i + 1, _, .cons _ r, e => paired_getR (i := i) r e
section
variable {X : Cx} {e : Expr} {td : TE} {x : Str} {p pos apos cpos : Pos}
end
end Tw

namespace Tw
open PySem PySem.Spec PyProof.Rows L2
/-! ### rules of several kinds in one -/
def orR (r s : R2) : R2 := fun x y H Q => r x y H Q ∨ s x y H Q
theorem op_or {X : Cx} {f : Value → Value → Sem Value} {r s : R2} (h : OpR X f r) (h' : OpR X f s) : OpR X f (orR r s) := by
  intro pins st σ H x y v u Q I rx ry q
  rcases q with q | q
  · exact h pins st σ H x y v u Q I rx ry q
  · exact h' pins st σ H x y v u Q I rx ry q
def orC (r s : List V → Hp → VK → Prop) : List V → Hp → VK → Prop := fun xs H Q => r xs H Q ∨ s xs H Q
theorem cr_or {X : Cx} {f : Value} {r s : List V → Hp → VK → Prop} (h : CallR X f r) (h' : CallR X f s) : CallR X f (orC r s) := by
  intro pins st σ H xs us Q I r q
  rcases q with q | q
  · exact h pins st σ H xs us Q I r q
  · exact h' pins st σ H xs us Q I r q
/-- == of plain data, one of both not too deep -/
def rEqM (K : PySem.W.Frag) : R2 := fun x y H Q => ∃ d e, Dp K H x d ∧ Dp K H y e ∧ d.plain = true ∧ e.plain = true ∧ min d.depth e.depth ≤ 190 ∧ Q (.bl (PyData.eqv d e)) H
def rNeM (K : PySem.W.Frag) : R2 := fun x y H Q => ∃ d e, Dp K H x d ∧ Dp K H y e ∧ d.plain = true ∧ e.plain = true ∧ min d.depth e.depth ≤ 190 ∧ Q (.bl (!PyData.eqv d e)) H
section
variable {X : Cx}
theorem op_eqM (hu : X.A.units + 200 < cLine) : OpR X (compareOp .Eq) (rEqM X.K) := by
  intro pins s σ H x y v u Q I rx ry h
  obtain ⟨d, e, hd, he, pd, pe, dd, q⟩ := h
  obtain ⟨as, ra⟩ := Dp.reads I d x v hd rx
  obtain ⟨bs, rb⟩ := Dp.reads I e y u he ry
  exact SeqAt.eq_plain ra rb pd pe (by omega) ⟨.bl _, H, I, rfl, q⟩
theorem op_neM (hu : X.A.units + 200 < cLine) : OpR X (compareOp .NotEq) (rNeM X.K) := by
  intro pins s σ H x y v u Q I rx ry h
  obtain ⟨d, e, hd, he, pd, pe, dd, q⟩ := h
  obtain ⟨as, ra⟩ := Dp.reads I d x v hd rx
  obtain ⟨bs, rb⟩ := Dp.reads I e y u he ry
  exact SeqAt.ne_plain ra rb pd pe (by omega) ⟨.bl _, H, I, rfl, q⟩
def rEqU (K : PySem.W.Frag) : R2 := orR (rEqM K) (rEqE K)
def rNeU (K : PySem.W.Frag) : R2 := orR (rNeM K) (rNeE K)
theorem op_eqU {k : Nat} (hr : Room k X.A) : OpR X (compareOp .Eq) (rEqU X.K) := op_or (op_eqM (room_eq hr)) (op_eqE (hu_of hr))
theorem op_neU {k : Nat} (hr : Room k X.A) : OpR X (compareOp .NotEq) (rNeU X.K) := op_or (op_neM (room_eq hr)) (op_neE (hu_of hr))
def rMulU : R2 := orR rMulI (orR rRepS rRep)
theorem op_mulU : OpR X (binaryOp .Mult) rMulU := op_or op_mul (op_or op_repS op_rep)
def rLtU : R2 := orR rLtI rLtS
theorem op_ltU : OpR X (compareOp .Lt) rLtU := op_or op_lt op_lt_str
def rInM (K : PySem.W.Frag) (neg : Bool) : R2 := fun x y H Q => ∃ d ds, Dp K H x d ∧ (Dp K H y (.list ds) ∨ Dp K H y (.tuple ds)) ∧ d.plain = true ∧ PyData.plainAll ds = true ∧ min (PyData.depthAll ds) d.depth ≤ 190 ∧ Q (.bl (if neg then !(ds.any fun z => PyData.eqv z d) else ds.any fun z => PyData.eqv z d)) H
theorem op_inM (hu : X.A.units + 200 < cLine) : OpR X (compareOp .In) (rInM X.K false) := by
  intro pins s σ H x y v u Q I rx ry h
  obtain ⟨d, ds, hd, he, pd, pe, dd, q⟩ := h
  obtain ⟨as, ra⟩ := Dp.reads I d x v hd rx
  rcases he with he | he
  · obtain ⟨bs, rb⟩ := Dp.reads I _ y u he ry
    exact SeqAt.in_list_data rb ra pe pd (by omega) ⟨.bl _, H, I, rfl, q⟩
  · obtain ⟨bs, rb⟩ := Dp.reads I _ y u he ry
    exact SeqAt.in_tuple_data rb ra pe pd (by omega) ⟨.bl _, H, I, rfl, q⟩
theorem op_notInM (hu : X.A.units + 200 < cLine) : OpR X (compareOp .NotIn) (rInM X.K true) := by
  intro pins s σ H x y v u Q I rx ry h
  obtain ⟨d, ds, hd, he, pd, pe, dd, q⟩ := h
  obtain ⟨as, ra⟩ := Dp.reads I d x v hd rx
  rcases he with he | he
  · obtain ⟨bs, rb⟩ := Dp.reads I _ y u he ry
    exact SeqAt.notIn_list_data rb ra pe pd (by omega) ⟨.bl _, H, I, rfl, q⟩
  · obtain ⟨bs, rb⟩ := Dp.reads I _ y u he ry
    exact SeqAt.notIn_tuple_data rb ra pe pd (by omega) ⟨.bl _, H, I, rfl, q⟩
def rInU (K : PySem.W.Frag) (neg : Bool) : R2 := orR (rInM K neg) (orR (rInA K neg) (if neg then rNotInS else rInS))
theorem op_inU {k : Nat} (hr : Room k X.A) : OpR X (compareOp .In) (rInU X.K false) := op_or (op_inM (room_eq hr)) (op_or (op_inA (hu_of hr)) op_inS)
theorem op_notInU {k : Nat} (hr : Room k X.A) : OpR X (compareOp .NotIn) (rInU X.K true) := op_or (op_notInM (room_eq hr)) (op_or (op_notInA (hu_of hr)) op_notInS)
def rLenU (K : PySem.W.Frag) : List V → Hp → VK → Prop := orC (rLenV K) rLenD
theorem call_lenR : CallR X (.builtin "len") rLenD := by
  intro pins s σ H xs us Q I r h
  obtain ⟨a, kvs, rfl, hd, q⟩ := h
  obtain ⟨u, rfl, ru⟩ := vals1 r
  cases ru
  exact d_len I hd fun t s' I' => ⟨.int _, H, I', ⟨t, rfl⟩, q⟩
theorem call_lenU : CallR X (.builtin "len") (rLenU X.K) := cr_or call_len call_lenR
end
/-! ### tuples that are known to have no dict of their own -/
def tTupF (t : TA) : TE := fun σ H Q => t σ H fun xs H1 => xs.length ≤ sizeLine ∧ ∀ p (ob : Obj), H1 p = none → ob.dict = none → Q (.ref p) (upd H1 p (.frz ob (.tup xs)))
section
variable {X : Cx} {es : List Expr} {t : TA} {pos : Pos}
theorem pe_tupF {x1} (h : PA X es t) : PE X (.Tuple es x1 pos) (tTupF t) := by
  refine ⟨fun pins s σ H Q I hq => ?_⟩
  refine wpAny_Tuple_spliced (thn (h.run pos pins s σ H _ I hq) fun us s1 ⟨xs, H1, I1, r, z, q⟩ => ⟨by rw [← r.length]; exact z, ?_⟩)
  have hf : H1 s1.heap.objs.size = none := I1.hok.fresh (Nat.le_refl _)
  refine ⟨.ref s1.heap.objs.size, upd H1 s1.heap.objs.size (.frz _ (.tup xs)), I1.laid (t' := s1.toks) (fun b u e => Heap.get?_push_of_some _ e) (Nat.le_refl _) ?_, rfl, q _ { cls := .type "tuple", data := .seq us.toArray } hf rfl⟩
  exact ⟨Heap.get?_push_size _ rfl, z, us, r, ⟨_, Heap.get?_push_size _ rfl, rfl, _, rfl⟩⟩
def rTupOfF (K : PySem.W.Frag) : List V → Hp → VK → Prop := fun xs H Q => ∃ p ys, xs = [.ref p] ∧ ((SqL K H p ys ∧ ∀ l (ob : Obj), H l = none → ob.dict = none → Q (.ref l) (upd H l (.frz ob (.tup ys)))) ∨ (SqT K H p ys ∧ Q (.ref p) H))
theorem call_tupleF : CallR X (.type "tuple") (rTupOfF X.K) := by
  intro pins s σ H xs us Q I r h
  obtain ⟨p, ys, rfl, h⟩ := h
  obtain ⟨u, rfl, rx⟩ := vals1 r
  cases rx
  rcases h with ⟨hq, q⟩ | ⟨hq, q⟩
  · obtain ⟨its, r', pl, hz⟩ := I.list hq
    have hlen := r'.length
    refine call_tuple_list pl.isList (fun h' kp => ?_) (by simp only [List.size_toArray] <;> omega)
    have I1 : Inv X pins σ H { s with heap := h' } := I.kept (t' := s.toks) kp
    have I2 : Inv X pins σ (upd H h'.objs.size (.frz { cls := .type "tuple", data := .seq its.toArray } (.tup ys))) { s with heap := h'.push { cls := .type "tuple", data := .seq its.toArray } } :=
      I1.laid (t' := s.toks) (fun b o e => Heap.get?_push_of_some _ e) (Nat.le_refl _) (show ObjOk X.prog X.w _ _ _ (.frz _ (.tup ys)) from ⟨Heap.get?_push_size _ rfl, hz, its, r', IsTup.new _ _⟩)
    exact ⟨.ref h'.objs.size, _, I2, rfl, q _ _ (I1.hok.fresh (Nat.le_refl _)) rfl⟩
  · obtain ⟨its, r', pl, hz⟩ := I.tuple hq
    exact call_tuple_same pl ⟨.ref p, H, I, rfl, q⟩
def rCatF (K : PySem.W.Frag) : R2 := fun x y H Q => ∃ a b xs ys, x = .ref a ∧ y = .ref b ∧ SqT K H a xs ∧ SqT K H b ys ∧ xs.length + ys.length ≤ sizeLine ∧
  (xs = [] → Q (.ref b) H) ∧ (xs ≠ [] → ys = [] → Q (.ref a) H) ∧ (xs ≠ [] → ys ≠ [] → ∀ p (ob : Obj), H p = none → ob.dict = none → Q (.ref p) (upd H p (.frz ob (.tup (xs ++ ys)))))
theorem op_catF : OpR X (binaryOp .Add) (rCatF X.K) := by
  intro pins s σ H x y v u Q I rx ry h
  obtain ⟨a, b, xs, ys, rfl, rfl, ha, hb, hz, q0, q1, q2⟩ := h
  cases rx
  cases ry
  obtain ⟨its, r1, p1, _⟩ := I.tuple ha
  obtain ⟨its2, r2, p2, _⟩ := I.tuple hb
  by_cases hx : xs = []
  · subst hx
    cases r1
    exact cat_tup0 p1 p2 ⟨.ref b, H, I, rfl, q0 rfl⟩
  · refine HT.cat_tup p1 p2 (fun z => hx (r1.nil_iff.mp z)) (fun z => ⟨.ref a, H, I, rfl, q1 hx (r2.nil_iff.mp z)⟩) (fun z => ?_) (by rw [← r1.length, ← r2.length]; exact hz)
    refine ⟨.ref s.heap.objs.size, _, I.laid (t' := s.toks) (o := .frz { cls := .type "tuple", data := .seq (its ++ its2).toArray } (.tup (xs ++ ys))) (fun b ob q => Heap.get?_push_of_some _ q) (Nat.le_refl _) ?_, rfl, q2 hx (fun w => z (r2.nil_iff.mpr w)) _ _ (I.hok.fresh (Nat.le_refl _)) rfl⟩
    exact ⟨Heap.get?_push_size _ rfl, by rw [List.length_append]; exact hz, _, r1.append r2, IsTup.new _ _⟩
def rSlF (K : PySem.W.Frag) : V → Option Int → Option Int → Hp → VK → Prop := fun x lo hi H Q => ∃ a xs, x = .ref a ∧ SqT K H a xs ∧
  (HT.sIx xs.length 0 lo = 0 ∧ HT.sIx xs.length xs.length hi = xs.length → Q (.ref a) H) ∧ (¬ (HT.sIx xs.length 0 lo = 0 ∧ HT.sIx xs.length xs.length hi = xs.length) → ∀ p (ob : Obj), H p = none → ob.dict = none → Q (.ref p) (upd H p (.frz ob (.tup (cutV xs lo hi)))))
theorem sl_tupF : SlR X (rSlF X.K) := by
  intro pins s σ H x v vl vu lo hi sl Q I rx hs pl pu h
  obtain ⟨a, xs, rfl, hx, q1, q2⟩ := h
  cases rx
  obtain ⟨its, r, ht, hz⟩ := I.tuple hx
  have hlen : its.toArray.size = xs.length := by rw [List.size_toArray]; exact r.length.symm
  refine ⟨"tuple", _, PyProof.Rows.slot_tuple_getitem.lookup, ht.typeIs, ?_⟩
  by_cases hw : HT.sIx xs.length 0 lo = 0 ∧ HT.sIx xs.length xs.length hi = xs.length
  · exact getItem_tuple_whole ht hs pl pu (by rw [hlen]; exact hw) ⟨.ref a, H, I, rfl, q1 hw⟩
  · refine HT.getItem_tuple_cut ht hs pl pu (by rw [hlen]; exact hw) ?_ (by rw [hlen]; exact hz)
    rw [hlen]
    refine ⟨.ref s.heap.objs.size, _, I.laid (t' := s.toks) (o := .frz { cls := .type "tuple", data := .seq ((its.drop (HT.sIx xs.length 0 lo)).take (HT.sIx xs.length xs.length hi - HT.sIx xs.length 0 lo)).toArray } (.tup (cutV xs lo hi))) (fun b ob q => Heap.get?_push_of_some _ q) (Nat.le_refl _) ?_, rfl, q2 hw _ _ (I.hok.fresh (Nat.le_refl _)) rfl⟩
    · exact ⟨Heap.get?_push_size _ rfl, Nat.le_trans (cutV_length xs lo hi) hz, _, (r.drop (HT.sIx xs.length 0 lo)).take (HT.sIx xs.length xs.length hi - HT.sIx xs.length 0 lo), IsTup.new _ _⟩
def rSlU (K : PySem.W.Frag) : V → Option Int → Option Int → Hp → VK → Prop := fun x lo hi H Q => rSlF K x lo hi H Q ∨ (rSlL K x lo hi H Q ∨ rSlS x lo hi H Q)
theorem sl_U : SlR X (rSlU X.K) := SlR.or sl_tupF (SlR.or sl_list sl_str)
end
/-! ### t.index(x) -/
section
variable {X : Cx} {o e : Expr} {es : List Expr} {to : TE} {t : TA} {name : Str} {apos cpos : Pos} {id : String} {r : V → List V → Hp → VK → Prop}
end
section
variable {X : Cx}
def rAddU (K : PySem.W.Frag) : R2 := orR rAddI (orR rAddS (orR (rCatF K) rCat))
theorem op_addU : OpR X (binaryOp .Add) (rAddU X.K) := op_or op_add (op_or op_add_str (op_or op_catF op_cat))
end
end Tw

namespace Tw
open PySem PySem.Spec PyProof.Rows L2
/-- the written part, with the program and the world that sets and dicts of own kinds are told by -/
structure KW where
  K : PySem.W.Frag
  P : Program
  w : World
  /-- the tables of code objects that lambdas are made with, and the names of these -/
  T : List (Addr × Str) := []
instance : Coe KW PySem.W.Frag := ⟨KW.K⟩
abbrev kw (P : Program) (w : World) (K : PySem.W.Frag) : KW := ⟨K, P, w, []⟩
/-! ### values without a heap: data that is never changed, and things that one slot owns -/
abbrev Dt := PyData
def kD : Key → Dt
  | .inl i => .int i
  | .inr x => .str x
/-- a tuple that is known to have no dict of its own -/
def TupN (K : PySem.W.Frag) (F : Hp) (a : Addr) (xs : List V) : Prop := (∃ ob : Obj, F a = some (.frz ob (.tup xs)) ∧ ob.dict = none) ∨
  ∃ (o : Obj) (its : Array Value) (n : Nat), K.lookup a = some o ∧ o.cls = .type "tuple" ∧ o.dict = none ∧ o.data = .seq its n ∧ its.size ≤ sizeLine ∧ Vals xs its.toList
theorem TupN.sq {K : PySem.W.Frag} {F : Hp} {a : Addr} {xs : List V} (h : TupN K F a xs) : SqT K F a xs := by
  rcases h with ⟨ob, h, _⟩ | ⟨o, its, n, h1, h2, h3, h4, h5, h6⟩
  · exact .inl (.inr ⟨ob, h⟩)
  · exact .inr ⟨o, its, n, h1, h2, h4, h5, h6⟩
theorem TupN.same {K : PySem.W.Frag} {F F' : Hp} {a : Addr} {xs : List V} (s : Same F F') (h : TupN K F a xs) : TupN K F' a xs := by
  rcases h with ⟨ob, h, d⟩ | h
  · exact .inl ⟨ob, s _ _ h, d⟩
  · exact .inr h
mutual
/-- the value v tells the datum -/
inductive Dn (K : KW) (F : Hp) : V → Dt → Prop
  | non : Dn K F .non .none
  | bl (b : Bool) : Dn K F (.bl b) (.bool b)
  | int (i : Int) : Dn K F (.int i) (.int i)
  | str (x : Str) (h : x.length ≤ sizeLine) : Dn K F (.str x) (.str x)
  | lst {a : Addr} {xs : List V} {ds : List Dt} : F a = some (.lst xs) → DnAll K F xs ds → Dn K F (.ref a) (.list ds)
  | tup {a : Addr} {xs : List V} {ds : List Dt} : TupN K F a xs → DnAll K F xs ds → Dn K F (.ref a) (.tuple ds)
  | dct {a : Addr} {kvs : List (Key × V)} {ds : List (Dt × Dt)} : Rd F a (.dK kvs) → DnKs K F kvs ds → Dn K F (.ref a) (.dict ds)
inductive DnAll (K : KW) (F : Hp) : List V → List Dt → Prop
  | nil : DnAll K F [] []
  | cons {v : V} {vs : List V} {d : Dt} {ds : List Dt} : Dn K F v d → DnAll K F vs ds → DnAll K F (v :: vs) (d :: ds)
inductive DnKs (K : KW) (F : Hp) : List (Key × V) → List (Dt × Dt) → Prop
  | nil : DnKs K F [] []
  | cons {k : Key} {v : V} {kvs : List (Key × V)} {d : Dt} {ds : List (Dt × Dt)} : Dn K F v d → DnKs K F kvs ds → DnKs K F ((k, v) :: kvs) ((kD k, d) :: ds)
end
theorem Same.sqL {K : PySem.W.Frag} {a : Addr} {H H' : Hp} {xs : List V} (k : Same H H') (h : SqL K H a xs) : SqL K H' a xs := by
  rcases h with h | h
  · rcases h with h | ⟨o, h⟩
    · exact .inl (.inl (k _ _ h))
    · exact .inl (.inr ⟨o, k _ _ h⟩)
  · exact .inr h
theorem Same.sqT' {K : PySem.W.Frag} {a : Addr} {H H' : Hp} {xs : List V} (k : Same H H') (h : SqT K H a xs) : SqT K H' a xs := by
  rcases h with h | h
  · rcases h with h | ⟨o, h⟩
    · exact .inl (.inl (k _ _ h))
    · exact .inl (.inr ⟨o, k _ _ h⟩)
  · exact .inr h
theorem Same.rd {a : Addr} {H H' : Hp} {u : HO} (k : Same H H') (h : Rd H a u) : Rd H' a u := by
  rcases h with h | ⟨o, h⟩
  · exact .inl (k _ _ h)
  · exact .inr ⟨o, k _ _ h⟩
section
variable {K : KW} {F F' : Hp}
mutual
theorem Dn.same (s : Same F F') : ∀ {v : V} {d : Dt}, Dn K F v d → Dn K F' v d
  | _, _, .non => .non
  | _, _, .bl b => .bl b
  | _, _, .int i => .int i
  | _, _, .str x h => .str x h
  | _, _, .lst h hs => .lst (s _ _ h) (DnAll.same s hs)
  | _, _, .tup h hs => .tup (h.same s) (DnAll.same s hs)
  | _, _, .dct h hs => .dct (Same.rd s h) (DnKs.same s hs)
theorem DnAll.same (s : Same F F') : ∀ {vs : List V} {ds : List Dt}, DnAll K F vs ds → DnAll K F' vs ds
  | _, _, .nil => .nil
  | _, _, .cons h hs => .cons (Dn.same s h) (DnAll.same s hs)
theorem DnKs.same (s : Same F F') : ∀ {vs : List (Key × V)} {ds : List (Dt × Dt)}, DnKs K F vs ds → DnKs K F' vs ds
  | _, _, .nil => .nil
  | _, _, .cons h hs => .cons (Dn.same s h) (DnKs.same s hs)
end
theorem DnAll.length : ∀ {vs : List V} {ds : List Dt}, DnAll K F vs ds → vs.length = ds.length
  | _, _, .nil => rfl
  | _, _, .cons _ hs => congrArg (· + 1) hs.length
theorem DnAll.app : ∀ {vs us : List V} {ds es : List Dt}, DnAll K F vs ds → DnAll K F us es → DnAll K F (vs ++ us) (ds ++ es)
  | _, _, _, _, .nil, h => h
  | _, _, _, _, .cons h hs, h' => .cons h (hs.app h')
theorem DnAll.get : ∀ {vs : List V} {ds : List Dt} {i : Nat} {d : Dt}, DnAll K F vs ds → ds[i]? = some d → ∃ v, vs[i]? = some v ∧ Dn K F v d
  | _, _, _, _, .nil, e => by simp at e
  | _, _, 0, _, .cons h _, e => by simp at e; subst e; exact ⟨_, rfl, h⟩
  | _, _, i + 1, d, .cons _ hs, e => by
    obtain ⟨v, h1, h2⟩ := DnAll.get (i := i) (d := d) hs (by simpa using e)
    exact ⟨v, by simpa using h1, h2⟩
theorem DnAll.getV : ∀ {vs : List V} {ds : List Dt} {i : Nat} {v : V}, DnAll K F vs ds → vs[i]? = some v → ∃ d, ds[i]? = some d ∧ Dn K F v d
  | _, _, _, _, .nil, e => by simp at e
  | _, _, 0, _, .cons h _, e => by simp at e; subst e; exact ⟨_, rfl, h⟩
  | _, _, i + 1, v, .cons _ hs, e => by
    obtain ⟨d, h1, h2⟩ := DnAll.getV (i := i) (v := v) hs (by simpa using e)
    exact ⟨d, by simpa using h1, h2⟩
theorem DnAll.take : ∀ {vs : List V} {ds : List Dt} (n : Nat), DnAll K F vs ds → DnAll K F (vs.take n) (ds.take n)
  | _, _, 0, _ => .nil
  | _, _, _ + 1, .nil => .nil
  | _, _, n + 1, .cons h hs => .cons h (hs.take n)
theorem DnAll.drop : ∀ {vs : List V} {ds : List Dt} (n : Nat), DnAll K F vs ds → DnAll K F (vs.drop n) (ds.drop n)
  | _, _, 0, h => h
  | _, _, _ + 1, .nil => .nil
  | _, _, n + 1, .cons _ hs => hs.drop n
theorem DnAll.set : ∀ {vs : List V} {ds : List Dt} {v : V} {d : Dt} (i : Nat), DnAll K F vs ds → Dn K F v d → DnAll K F (vs.set i v) (ds.set i d)
  | _, _, _, _, _, .nil, _ => .nil
  | _, _, _, _, 0, .cons _ hs, h => .cons h hs
  | _, _, _, _, i + 1, .cons g hs, h => .cons g (hs.set i h)
theorem DnAll.ofStrs : ∀ {ss : List Str}, (∀ s ∈ ss, s.length ≤ sizeLine) → DnAll K F (ss.map .str) (ss.map .str)
  | [], _ => .nil
  | s :: ss, h => .cons (.str s (h s List.mem_cons_self)) (DnAll.ofStrs fun z hz => h z (List.mem_cons_of_mem _ hz))
end
/-- things that are no data: a set of texts; an instance of an own class with data in its fields; a dict with None and truths among its keys; a dict whose keys are tuples; a thing that is only handed on; a def of the module; a thing that can be called, and is what was handed over -/
inductive Xt where
  | st (xs : List Str)
  | ob (c : Str) (fs : List (Str × Dt))
  | dn (kvs : List (Leaf × Dt))
  | dt (kvs : List (List Key × Dt))
  | op (u : V)
  | fn (nm : Str)
  | fns (nms : List Str)
  | lam
/-- what a slot owns: a list of data, a list of such lists, a dict of data, a dict of lists of data -/
inductive Ow where
  | l (xs : List Dt)
  | ll (xs : List (List Dt))
  | dc (kvs : List (Key × Dt))
  | dl (kvs : List (Key × List Dt))
  | x (t : Xt)
structure Xc where
  cls : Str
  fs : List (Str × Dt)
/-- xr: a caught exception; d: a datum; own: owned by this cell; io: an argument that the caller owns; rf: the thing owned by the slot i, or one in it -/
inductive A where
  | d (x : Dt)
  | own (o : Ow)
  | io (o : Ow)
  | rf (i : Nat) (p : Option Key)
  | sc (ns : List Int)
  | q (xs : List Dt)
  | lk (kvs : List (Dt × Dt))
  | xr (x : Xc)
abbrev Env := List (Option A)
def Ow.dt : Ow → Option Dt
  | .l xs => some (.list xs)
  | .ll xs => some (.list (xs.map .list))
  | .dc kvs => some (.dict (kvs.map fun q => (kD q.1, q.2)))
  | .dl kvs => some (.dict (kvs.map fun q => (kD q.1, .list q.2)))
  | .x _ => none
def setS (xs : List Str) : Key → Bool := fun k => xs.any fun x => decide (k = .inr x)
/-- a dict whose keys are None, truths, ints and texts -/
def DicN (P : Program) (w : World) (a : Addr) (us : List (Leaf × V)) : HO := .ext fun h => us.length ≤ sizeLine ∧ (a == sysModules) = false ∧ ∃ vs, KV us vs ∧ h.DictOf (leafKind P w) a vs
/-- a key that is a tuple, where it stands, and what stands at it -/
abbrev TK := List Key × Addr × V
/-- a dict whose keys are tuples of ints and texts -/
def DicTX (P : Program) (w : World) (a : Addr) (us : List TK) : HO := .ext fun h => us.length ≤ sizeLine ∧ (a == sysModules) = false ∧ ∃ xs : List (List Key × Addr × Value),
  Paired (fun (p : TK) (q : List Key × Addr × Value) => p.1 = q.1 ∧ p.2.1 = q.2.1 ∧ RelV p.2.2 q.2.2) us xs ∧
  ∃ o es ep, h.get? a = some o ∧ o.ExactDict ∧ o.data = .dict es ep ∧ es.toList = xs.map (entryOfKey (tupleKind (mixKind P w))) ∧ (xs.map (·.1)).Nodup
def XtO (K : KW) (F H : Hp) (own : Addr → Prop) (v : V) : Xt → Prop
  | .st xs => ∃ a, v = .ref a ∧ own a ∧ H a = some (SetK K.P K.w a (setS xs) xs.length)
  | .ob c fs => ∃ a dx us, v = .ref a ∧ own a ∧ own dx ∧ H a = some (.ins (He.ga K c) dx us) ∧ H dx = some (.own a) ∧ Paired (fun (p : Str × V) (q : Str × Dt) => p.1 = q.1 ∧ Dn K F p.2 q.2) us fs
  | .dn kvs => ∃ a us, v = .ref a ∧ own a ∧ H a = some (DicN K.P K.w a us) ∧ Paired (fun (p : Leaf × V) (q : Leaf × Dt) => p.1 = q.1 ∧ Dn K F p.2 q.2) us kvs
  | .op u => v = u
  | .fn nm => v = .ref (He.ga K nm)
  | .fns nms => ∃ a, v = .ref a ∧ F a = some (.lst (nms.map fun nm => V.ref (He.ga K nm)))
  | .lam => True
  | .dt kvs => ∃ a us, v = .ref a ∧ own a ∧ H a = some (DicTX K.P K.w a us) ∧ Paired (fun (p : TK) (q : List Key × Dt) => p.1 = q.1 ∧ TupN K F p.2.1 (p.1.map kV) ∧ Dn K F p.2.2 q.2) us kvs
def OwL (K : KW) (F H : Hp) (own : Addr → Prop) (v : V) (xs : List Dt) : Prop := ∃ a vs, v = .ref a ∧ own a ∧ H a = some (.lst vs) ∧ DnAll K F vs xs
def OwO (K : KW) (F H : Hp) (own : Addr → Prop) (v : V) : Ow → Prop
  | .l xs => OwL K F H own v xs
  | .ll xss => ∃ a vs, v = .ref a ∧ own a ∧ H a = some (.lst vs) ∧ vs.Nodup ∧ V.ref a ∉ vs ∧ Paired (OwL K F H own) vs xss
  | .dc kvs => ∃ a us, v = .ref a ∧ own a ∧ H a = some (.dK us) ∧ Paired (fun (p : Key × V) (q : Key × Dt) => p.1 = q.1 ∧ Dn K F p.2 q.2) us kvs
  | .dl kvs => ∃ a us, v = .ref a ∧ own a ∧ H a = some (.dK us) ∧ ((us.map (·.2)).Nodup ∧ (us.map (·.1)).Nodup) ∧ V.ref a ∉ us.map (·.2) ∧ Paired (fun (p : Key × V) (q : Key × List Dt) => p.1 = q.1 ∧ OwL K F H own p.2 q.2) us kvs
  | .x t => XtO K F H own v t
section
variable {K : KW} {F F' H H' : Hp} {own own' : Addr → Prop}
theorem OwL.mono (s : Same F F') (ho : ∀ a, own a → own' a) (hh : ∀ a, own a → H' a = H a) {v : V} {xs : List Dt} (h : OwL K F H own v xs) : OwL K F' H' own' v xs := by
  obtain ⟨a, vs, e, o, q, d⟩ := h
  exact ⟨a, vs, e, ho a o, by rw [hh a o]; exact q, d.same s⟩
theorem XtO.mono (s : Same F F') (ho : ∀ a, own a → own' a) (hh : ∀ a, own a → H' a = H a) {v : V} {o : Xt} (h : XtO K F H own v o) : XtO K F' H' own' v o := by
  cases o with
  | st xs =>
    obtain ⟨a, e, o, q⟩ := h
    exact ⟨a, e, ho a o, by rw [hh a o]; exact q⟩
  | ob c fs =>
    obtain ⟨a, dx, us, e, o1, o2, q1, q2, p⟩ := h
    exact ⟨a, dx, us, e, ho a o1, ho dx o2, by rw [hh a o1]; exact q1, by rw [hh dx o2]; exact q2, L2.Paired.mapP p fun _ _ z => ⟨z.1, z.2.same s⟩⟩
  | op u => exact h
  | fn u => exact h
  | fns nms =>
    obtain ⟨a, e, q⟩ := h
    exact ⟨a, e, s _ _ q⟩
  | lam => exact h
  | dn kvs =>
    obtain ⟨a, us, e, o1, q1, p⟩ := h
    exact ⟨a, us, e, ho a o1, by rw [hh a o1]; exact q1, L2.Paired.mapP p fun _ _ z => ⟨z.1, z.2.same s⟩⟩
  | dt kvs =>
    obtain ⟨a, us, e, o1, q1, p⟩ := h
    exact ⟨a, us, e, ho a o1, by rw [hh a o1]; exact q1, L2.Paired.mapP p fun _ _ z => ⟨z.1, z.2.1.same s, z.2.2.same s⟩⟩
theorem OwO.mono (s : Same F F') (ho : ∀ a, own a → own' a) (hh : ∀ a, own a → H' a = H a) {v : V} {o : Ow} (h : OwO K F H own v o) : OwO K F' H' own' v o := by
  cases o with
  | l xs => exact OwL.mono s ho hh h
  | ll xss =>
    obtain ⟨a, vs, e, q, r, n, m, p⟩ := h
    exact ⟨a, vs, e, ho a q, by rw [hh a q]; exact r, n, m, L2.Paired.mapP p fun _ _ z => z.mono s ho hh⟩
  | dc kvs =>
    obtain ⟨a, us, e, q, r, p⟩ := h
    exact ⟨a, us, e, ho a q, by rw [hh a q]; exact r, L2.Paired.mapP p fun _ _ z => ⟨z.1, z.2.same s⟩⟩
  | dl kvs =>
    obtain ⟨a, us, e, q, r, n, m, p⟩ := h
    exact ⟨a, us, e, ho a q, by rw [hh a q]; exact r, n, m, L2.Paired.mapP p fun _ _ z => ⟨z.1, z.2.mono s ho hh⟩⟩
  | x t => exact XtO.mono s ho hh h
theorem paired_all : ∀ {vs : List V} {xss : List (List Dt)}, Paired (OwL K F H own) vs xss → (∀ v xs, OwL K F H own v xs → Dn K F' v (.list xs)) → DnAll K F' vs (xss.map .list)
  | _, _, .nil, _ => .nil
  | _, _, .cons h hs, f => .cons (f _ _ h) (paired_all hs f)
theorem paired_ks : ∀ {vs : List (Key × V)} {xss : List (Key × Dt)}, Paired (fun (p : Key × V) (q : Key × Dt) => p.1 = q.1 ∧ Dn K F p.2 q.2) vs xss → DnKs K F vs (xss.map fun q => (kD q.1, q.2))
  | _, _, .nil => .nil
  | (k, v) :: vs, (k', d) :: ds, .cons h hs => by
    obtain ⟨e, h⟩ := h
    cases e
    exact .cons h (paired_ks hs)
theorem paired_kl : ∀ {vs : List (Key × V)} {xss : List (Key × List Dt)}, Paired (fun (p : Key × V) (q : Key × List Dt) => p.1 = q.1 ∧ OwL K F H own p.2 q.2) vs xss → (∀ v xs, OwL K F H own v xs → Dn K F' v (.list xs)) → DnKs K F' vs (xss.map fun q => (kD q.1, .list q.2))
  | _, _, .nil, _ => .nil
  | (k, v) :: vs, (k', d) :: ds, .cons h hs, f => by
    obtain ⟨e, h⟩ := h
    cases e
    exact .cons (f _ _ h) (paired_kl hs f)
/-- what is owned, read as a datum of any heap that has it -/
theorem OwO.dn (s : Same F F') (hh : ∀ a, own a → F' a = H a) {v : V} {o : Ow} (h : OwO K F H own v o) {d : Dt} (hd : o.dt = some d) : Dn K F' v d := by
  have f : ∀ v xs, OwL K F H own v xs → Dn K F' v (.list xs) := fun v xs h => by
    obtain ⟨a, vs, rfl, o, q, d⟩ := h
    exact .lst ((hh a o).trans q) (d.same s)
  cases o with
  | x t => cases hd
  | l xs => cases hd; exact f _ _ h
  | ll xss =>
    cases hd
    obtain ⟨a, vs, rfl, q, r, n, m, p⟩ := h
    exact .lst ((hh a q).trans r) (paired_all p f)
  | dc kvs =>
    cases hd
    obtain ⟨a, us, rfl, q, r, p⟩ := h
    exact .dct (.inl ((hh a q).trans r)) (paired_ks (L2.Paired.mapP p fun _ _ z => ⟨z.1, z.2.same s⟩))
  | dl kvs =>
    cases hd
    obtain ⟨a, us, rfl, q, r, n, m, p⟩ := h
    exact .dct (.inl ((hh a q).trans r)) (paired_kl p f)
end
theorem same_newV {H : Hp} {p : Addr} {o : HO} (h : H p = none) : Same H (upd H p o) := fun b x e => by
  rw [upd_ne (ne_of_none e h)]
  exact e
/-- where a def began -/
structure Bs where
  H : Hp
  F : Hp
  S : Addr → Option Nat
  vs : List V
  io : Nat → Bool
  xc : Addr × Value × Option Addr
/-- the thing at a path of a slot's thing -/
def atP (H : Hp) (O : Addr → Option Nat) (i : Nat) (w : V) (v : V) : Option Key → Prop
  | none => v = w
  | some k => ∃ a, w = .ref a ∧ O a = some i ∧ ((∃ vs n, k = .inl n ∧ 0 ≤ n ∧ H a = some (.lst vs) ∧ vs[n.toNat]? = some v) ∨ ∃ us, H a = some (.dK us) ∧ valV us k = some v)
def CellO (K : KW) (B : Bs) (F H : Hp) (O : Addr → Option Nat) (σ : List (Option V)) (j : Nat) (v : V) : A → Prop
  | .d x => Dn K F v x
  | .own o => OwO K F H (fun a => O a = some j ∧ B.H a = none) v o
  | .io o => OwO K F H (fun a => O a = some j) v o ∧ B.vs[j]? = some v
  | .rf i p => ∃ w, σ[i]? = some (some w) ∧ atP H O i w v p
  | .sc ns => ∃ a, v = .ref a ∧ SqL K F a (ns.map V.int)
  | .q xs => ∃ a vs, v = .ref a ∧ SqT K F a vs ∧ DnAll K F vs xs
  | .lk kvs => ∃ (a : Addr) (o : Obj) (us : List (Key × V)), v = .ref a ∧ B.F a = some (.frz o (.dK us)) ∧ DnKs K B.F us kvs
  | .xr x => v = .ref B.xc.1 ∧ B.xc.2.1 = .ref (He.ga K x.cls) ∧ ((x.fs = [] ∧ B.xc.2.2 = none) ∨ ∃ dx us, B.xc.2.2 = some dx ∧ F dx = some (.xd ((x.fs.map (·.1)).zip us)) ∧ DnAll K F us (x.fs.map (·.2)))
def TmO (K : KW) (B : Bs) (F H : Hp) (O : Addr → Option Nat) (σ : List (Option V)) : List V → List A → Prop
  | [], [] => True
  | v :: ts, a :: te => CellO K B F H O σ (σ.length + ts.length) v a ∧ TmO K B F H O σ ts te
  | _, _ => False
/-- a thing that may be changed -/
def MutO (o : Option HO) : Prop := o ≠ none ∧ (∀ xs, o ≠ some (.tup xs)) ∧ (∀ b u, o ≠ some (.frz b u)) ∧ (∀ fs, o ≠ some (.xd fs)) ∧ (∀ ps, o ≠ some (.tbl ps)) ∧ ∀ c q, o ≠ some (LamX.CodeO c q)
theorem mutO_lst (xs : List V) : MutO (some (.lst xs)) := ⟨nofun, fun _ z => (nomatch z), (fun _ _ z => nomatch z), (fun _ z => nomatch z), (fun _ z => nomatch z), fun _ _ z => by unfold LamX.CodeO at z; cases z⟩
theorem mutO_dK (xs : List (Key × V)) : MutO (some (.dK xs)) := ⟨nofun, fun _ z => (nomatch z), (fun _ _ z => nomatch z), (fun _ z => nomatch z), (fun _ z => nomatch z), fun _ _ z => by unfold LamX.CodeO at z; cases z⟩
/-- each table tells code objects of its name alone -/
def TabH (K : KW) (H : Hp) : Prop := ∀ p ∈ K.T, LamX.TabS H p.1 p.2
/-- the tables when a def begins -/
def BT (K : KW) (B : Bs) : Prop := ∀ p ∈ K.T, B.F p.1 = none ∧ B.H p.1 ≠ none ∧ B.S p.1 = none
theorem TabH.mono {K : KW} {H H' : Hp} (t : TabH K H) (k : ∀ b o, ((∃ ps, o = .tbl ps) ∨ ∃ c q, o = LamX.CodeO c q) → H b = some o → H' b = some o) : TabH K H' := fun p hp => by
  obtain ⟨ps, h1, h2, h3⟩ := t p hp
  refine ⟨ps, k _ _ (.inl ⟨_, rfl⟩) h1, h2, fun pos cv z => ?_⟩
  obtain ⟨c, e1, e2⟩ := h3 pos cv z
  exact ⟨c, e1, k _ _ (.inr ⟨_, _, rfl⟩) e2⟩
structure RelF (K : KW) (B : Bs) (F : Hp) (O : Addr → Option Nat) (σ : List (Option V)) (env : Env) (ts : List V) (te : List A) (H : Hp) : Prop where
  ln : σ.length = env.length
  sl : ∀ i a, env[i]? = some (some a) → ∃ v, σ[i]? = some (some v) ∧ CellO K B F H O σ i v a
  tm : TmO K B F H O σ ts te
  sf : Same F H
  of : ∀ a j, O a = some j → F a = none ∧ MutO (H a) ∧ j < σ.length + ts.length ∧ (B.H a = none ∨ (B.S a = some j ∧ B.io j = true))
  b1 : Same B.F F
  b2 : ∀ b o, B.S b = none → (∀ ps, o ≠ .tbl ps) → B.H b = some o → H b = some o
  b3 : ∀ b, B.F b = none → F b ≠ none → B.H b = none ∨ B.S b ≠ none
  b5 : ∀ b, B.H b ≠ none → H b ≠ none
  bi : ∀ i, B.io i = true → ∃ o, env[i]? = some (some (.io o))
  tb : BT K B ∧ TabH K H
def Rel (K : KW) (B : Bs) (σ : List (Option V)) (env : Env) (ts : List V) (te : List A) (H : Hp) : Prop := ∃ F O, RelF K B F O σ env ts te H
section
variable {K : KW} {B : Bs} {F F' H H' : Hp} {O O' : Addr → Option Nat} {σ σ' : List (Option V)} {env : Env} {ts : List V} {te : List A}
theorem atP.mono {i : Nat} {w v : V} {p : Option Key} (h : atP H O i w v p) (k : p ≠ none → ∀ b, O b = some i → O' b = some i ∧ H' b = H b) : atP H' O' i w v p := by
  cases p with
  | none => exact h
  | some q =>
    obtain ⟨a, e, o, h⟩ := h
    obtain ⟨k1, k2⟩ := k nofun a o
    refine ⟨a, e, k1, ?_⟩
    rw [k2]
    exact h
/-- a cell stays what it was -/
theorem CellO.mono {j j' : Nat} {v : V} {a : A} (h : CellO K B F H O σ j v a) (s : Same F F') (hj : ∀ b, O b = some j → O' b = some j' ∧ H' b = H b)
    (hi : ∀ o, a = .io o → j' = j) (hr : ∀ i p w, a = .rf i p → σ[i]? = some (some w) → σ'[i]? = some (some w)) (hp : ∀ i k, a = .rf i (some k) → ∀ b, O b = some i → O' b = some i ∧ H' b = H b) : CellO K B F' H' O' σ' j' v a := by
  cases a with
  | d x => exact Dn.same s h
  | own o => exact OwO.mono (own := fun a => O a = some j ∧ B.H a = none) s (fun a z => ⟨(hj a z.1).1, z.2⟩) (fun a z => (hj a z.1).2) h
  | io o =>
    refine ⟨OwO.mono (own := fun a => O a = some j) s (fun a z => (hj a z).1) (fun a z => (hj a z).2) h.1, ?_⟩
    rw [hi o rfl]
    exact h.2
  | rf i p =>
    obtain ⟨w, e, h⟩ := h
    refine ⟨w, hr i p w rfl e, h.mono fun z b q => ?_⟩
    cases p with
    | none => exact absurd rfl z
    | some k => exact hp i k rfl b q
  | sc ns =>
    obtain ⟨a, e, h⟩ := h
    exact ⟨a, e, Same.sqL s h⟩
  | q xs =>
    obtain ⟨a, vs, e, h, d⟩ := h
    exact ⟨a, vs, e, Same.sqT' s h, d.same s⟩
  | lk kvs =>
    exact h
  | xr x =>
    obtain ⟨e1, e2, h⟩ := h
    refine ⟨e1, e2, h.imp id ?_⟩
    rintro ⟨dx, us, e3, h1, h2⟩
    exact ⟨dx, us, e3, s _ _ h1, h2.same s⟩
theorem TmO.len : ∀ {ts : List V} {te : List A}, TmO K B F H O σ ts te → ts.length = te.length
  | [], [], _ => rfl
  | _ :: _, _ :: _, h => congrArg (· + 1) (TmO.len h.2)
theorem TmO.mono (s : Same F F') (hl : σ'.length = σ.length) : ∀ {ts : List V} {te : List A}, TmO K B F H O σ ts te → (∀ j, σ.length ≤ j → j < σ.length + ts.length → ∀ b, O b = some j → O' b = some j ∧ H' b = H b) →
    (∀ i p w, A.rf i p ∈ te → σ[i]? = some (some w) → σ'[i]? = some (some w)) → (∀ i k, A.rf i (some k) ∈ te → ∀ b, O b = some i → O' b = some i ∧ H' b = H b) → TmO K B F' H' O' σ' ts te
  | [], [], _, _, _, _ => trivial
  | v :: ts, a :: te, h, hj, hr, hp => by
    refine ⟨?_, h.2.mono s hl (fun j h1 h2 => hj j h1 (by rw [List.length_cons]; omega)) (fun i p w z => hr i p w (List.mem_cons_of_mem _ z)) (fun i k z => hp i k (List.mem_cons_of_mem _ z))⟩
    rw [hl]
    exact CellO.mono h.1 s (hj _ (Nat.le_add_right _ _) (by rw [List.length_cons]; omega)) (fun _ _ => rfl) (fun i p w e => hr i p w (by rw [e]; exact List.mem_cons_self)) (fun i k e => hp i k (by rw [e]; exact List.mem_cons_self))
end

def isRf (i : Nat) : A → Bool
  | .rf j _ => j == i
  | _ => false
def isNest (i : Nat) : A → Bool
  | .rf j (some _) => j == i
  | _ => false
def isIo : A → Bool
  | .io _ => true
  | _ => false
def inE (f : A → Bool) (env : Env) : Bool := env.any fun c => match c with
  | some a => f a
  | none => false
def anyC (f : A → Bool) (env : Env) (te : List A) : Bool := inE f env || te.any f
theorem anyC_env {f : A → Bool} {env : Env} {te : List A} (h : anyC f env te = false) {i : Nat} {a : A} (e : env[i]? = some (some a)) : f a = false := by
  unfold anyC at h
  rw [Bool.or_eq_false_iff] at h
  have := List.any_eq_false.mp h.1 (some a) (List.mem_of_getElem? e)
  simpa using this
theorem anyC_te {f : A → Bool} {env : Env} {te : List A} (h : anyC f env te = false) {a : A} (e : a ∈ te) : f a = false := by
  unfold anyC at h
  rw [Bool.or_eq_false_iff] at h
  have := List.any_eq_false.mp h.2 a e
  simpa using this
section
variable {K : KW} {B : Bs} {F F' H H' : Hp} {O O' : Addr → Option Nat} {σ σ' : List (Option V)} {env : Env} {ts : List V} {te : List A}
theorem RelF.fresh (R : RelF K B F O σ env ts te H) {p : Addr} (h : H p = none) : F p = none ∧ B.H p = none ∧ O p = none := by
  refine ⟨Same.free R.sf h, Classical.byContradiction fun z => R.b5 p z h, ?_⟩
  cases e : O p with
  | none => rfl
  | some j => exact absurd h (R.of p j e).2.1.1
/-- a table is owned by none, nor is a code object -/
theorem RelF.noT (R : RelF K B F O σ env ts te H) {b : Addr} {o : HO} (t : (∃ ps, o = .tbl ps) ∨ ∃ c q, o = LamX.CodeO c q) (h : H b = some o) : O b = none := by
  cases e : O b with
  | none => rfl
  | some j =>
    have m := (R.of b j e).2.1.2.2.2.2
    rcases t with ⟨ps, rfl⟩ | ⟨c, q, rfl⟩
    · exact absurd h (m.1 ps)
    · exact absurd h (m.2 c q)
theorem RelF.noF (R : RelF K B F O σ env ts te H) {p : Addr × Str} (h : p ∈ K.T) : F p.1 = none := by
  obtain ⟨t1, t2, t3⟩ := R.tb.1 p h
  refine Classical.byContradiction fun z => ?_
  rcases R.b3 p.1 t1 z with y | y
  · exact t2 y
  · exact y t3
theorem RelF.tabO (R : RelF K B F O σ env ts te H) {p : Addr × Str} (h : p ∈ K.T) : O p.1 = none ∧ H p.1 ≠ none := by
  obtain ⟨ps, e, _⟩ := R.tb.2 p h
  exact ⟨R.noT (.inl ⟨ps, rfl⟩) e, by rw [e]; exact nofun⟩
/-- the heaps grow; what is owned stays; tables may be written -/
theorem RelF.ext0 (R : RelF K B F O σ env ts te H) (s : Same F F') (s2 : Same F' H') (k : ∀ b j, O b = some j → H' b = H b ∧ F' b = none) (k2 : ∀ b o, O b = none → (∀ ps, o ≠ .tbl ps) → H b = some o → H' b = some o)
    (k3 : ∀ b, F b = none → F' b ≠ none → B.H b = none) (k4 : ∀ b, H b ≠ none → H' b ≠ none) (tb : TabH K H') : RelF K B F' O σ env ts te H' where
  ln := R.ln
  sl := fun i a e => by
    obtain ⟨v, e1, h⟩ := R.sl i a e
    exact ⟨v, e1, h.mono s (fun b z => ⟨z, (k b i z).1⟩) (fun _ _ => rfl) (fun _ _ _ _ z => z) (fun i' _ _ b z => ⟨z, (k b i' z).1⟩)⟩
  tm := R.tm.mono s rfl (fun j _ _ b z => ⟨z, (k b j z).1⟩) (fun _ _ _ _ z => z) (fun i _ _ b z => ⟨z, (k b i z).1⟩)
  sf := s2
  of := fun a j z => by
    obtain ⟨h1, h2, h3, h4⟩ := R.of a j z
    exact ⟨(k a j z).2, by rw [(k a j z).1]; exact h2, h3, h4⟩
  b1 := R.b1.trans s
  b2 := fun b o hs ht e => by
    have h := R.b2 b o hs ht e
    cases z : O b with
    | none => exact k2 b o z ht h
    | some j => rw [(k b j z).1]; exact h
  b3 := fun b h1 h2 => by
    cases z : F b with
    | none => exact .inl (k3 b z h2)
    | some o => exact R.b3 b h1 (by rw [z]; exact nofun)
  b5 := fun b h1 => k4 b (R.b5 b h1)
  bi := R.bi
  tb := ⟨R.tb.1, tb⟩
/-- the heaps grow; what is owned stays -/
theorem RelF.ext (R : RelF K B F O σ env ts te H) (s : Same F F') (s2 : Same F' H') (k : ∀ b j, O b = some j → H' b = H b ∧ F' b = none) (k2 : ∀ b o, O b = none → H b = some o → H' b = some o)
    (k3 : ∀ b, F b = none → F' b ≠ none → B.H b = none) : RelF K B F' O σ env ts te H' := by
  refine R.ext0 s s2 k (fun b o z _ e => k2 b o z e) k3 (fun b h => ?_) (R.tb.2.mono fun b o t z => k2 b _ (R.noT t z) z)
  cases z : O b with
  | some j => rw [(k b j z).1]; exact h
  | none =>
    cases y : H b with
    | none => exact absurd y h
    | some o => rw [k2 b o z y]; exact nofun
/-- a new object that is never changed -/
theorem RelF.new (R : RelF K B F O σ env ts te H) {p : Addr} (h : H p = none) (o : HO) : RelF K B (upd F p o) O σ env ts te (upd H p o) := by
  obtain ⟨f1, f2, f3⟩ := R.fresh h
  have np : ∀ b j, O b = some j → b ≠ p := fun b j z e => by rw [e, f3] at z; cases z
  refine R.ext (same_newV f1) ?_ (fun b j z => ⟨upd_ne (np b j z), by rw [upd_ne (np b j z)]; exact (R.of b j z).1⟩) (fun b u _ e => ?_) (fun b h1 h2 => ?_)
  · intro b u e
    by_cases hb : b = p
    · subst hb
      rw [upd_same] at e ⊢
      exact e
    · rw [upd_ne hb] at e ⊢
      exact R.sf b u e
  · rw [upd_ne (ne_of_none e h)]
    exact e
  · by_cases hb : b = p
    · rw [hb]; exact f2
    · rw [upd_ne hb] at h2
      exact absurd h1 h2
theorem RelF.push (R : RelF K B F O σ env ts te H) {v : V} {a : A} (h : CellO K B F H O σ (σ.length + ts.length) v a) : RelF K B F O σ env (v :: ts) (a :: te) H :=
  { R with
    tm := ⟨h, R.tm⟩
    of := fun b j z => by
      obtain ⟨h1, h2, h3, h4⟩ := R.of b j z
      exact ⟨h1, h2, by rw [List.length_cons]; omega, h4⟩ }
/-- a new list of one's own -/
theorem RelF.newL (R : RelF K B F O σ env ts te H) {p : Addr} (h : H p = none) {o : HO} (mo : MutO (some o)) {w : Ow} (hw : ∀ own : Addr → Prop, own p → OwO K F (upd H p o) own (.ref p) w) :
    RelF K B F (fun b => if b = p then some (σ.length + ts.length) else O b) σ env (.ref p :: ts) (.own w :: te) (upd H p o) := by
  obtain ⟨f1, f2, f3⟩ := R.fresh h
  have np : ∀ b j, O b = some j → b ≠ p := fun b j z e => by rw [e, f3] at z; cases z
  have k : ∀ j b, O b = some j → (fun b => if b = p then some (σ.length + ts.length) else O b) b = some j ∧ upd H p o b = H b := fun j b z => ⟨(if_neg (np b j z)).trans z, upd_ne (np b j z)⟩
  refine ⟨R.ln, fun i a e => ?_, ⟨hw _ ⟨if_pos rfl, f2⟩, R.tm.mono (Same.refl F) rfl (fun j _ _ b z => k j b z) (fun _ _ _ _ z => z) (fun i _ _ b z => k i b z)⟩, fun b u e => ?_, fun b j z => ?_, R.b1, fun b u hs ht e => ?_, R.b3, fun b e => ?_, R.bi, R.tb.1, R.tb.2.mono fun b o' t z => by rw [upd_ne (ne_of_none z h)]; exact z⟩
  · obtain ⟨v, e1, h⟩ := R.sl i a e
    exact ⟨v, e1, h.mono (Same.refl F) (k i) (fun _ _ => rfl) (fun _ _ _ _ z => z) (fun i' _ _ b z => k i' b z)⟩
  · rw [upd_ne (ne_of_none e f1)]
    exact R.sf b u e
  · by_cases hb : b = p
    · subst hb
      have z' : some (σ.length + ts.length) = some j := (if_pos rfl).symm.trans z
      refine ⟨f1, by rw [upd_same]; exact mo, ?_, .inl f2⟩
      rw [List.length_cons, ← Option.some.inj z']
      omega
    · have z' : O b = some j := (if_neg hb).symm.trans z
      obtain ⟨h1, h2, h3, h4⟩ := R.of b j z'
      exact ⟨h1, by rw [upd_ne hb]; exact h2, by rw [List.length_cons]; omega, h4⟩
  · rw [upd_ne (fun z => by rw [z, f2] at e; cases e)]
    exact R.b2 b u hs ht e
  · rw [upd_ne (fun z => by rw [z] at e; exact e f2)]
    exact R.b5 b e
/-- the top is dropped -/
theorem RelF.pop {v : V} {a : A} (R : RelF K B F O σ env (v :: ts) (a :: te) H) : RelF K B F (fun b => if O b = some (σ.length + ts.length) then none else O b) σ env ts te H := by
  have k : ∀ j, j ≠ σ.length + ts.length → ∀ b, O b = some j → (fun b => if O b = some (σ.length + ts.length) then none else O b) b = some j ∧ H b = H b := fun j nj b z => ⟨(if_neg (by rw [z]; exact fun y => nj (Option.some.inj y))).trans z, rfl⟩
  have cl : ∀ i a, env[i]? = some (some a) → i < σ.length := fun i a e => by rw [R.ln]; exact (List.getElem?_eq_some_iff.mp e).1
  have rf : ∀ i w, σ[i]? = some (some w) → i ≠ σ.length + ts.length := fun i w e => by have := (List.getElem?_eq_some_iff.mp e).1; omega
  have cm : ∀ {j : Nat} {v : V} {a : A}, CellO K B F H O σ j v a → j ≠ σ.length + ts.length → CellO K B F H (fun b => if O b = some (σ.length + ts.length) then none else O b) σ j v a := fun {j v a} h nj => by
    refine h.mono (Same.refl F) (k j nj) (fun _ _ => rfl) (fun _ _ _ _ z => z) (fun i kk e b z => ?_)
    rw [e] at h
    obtain ⟨w, hw, _⟩ := h
    exact k i (rf i w hw) b z
  have tm : ∀ {us : List V} {ue : List A}, us.length ≤ ts.length → TmO K B F H O σ us ue → TmO K B F H (fun b => if O b = some (σ.length + ts.length) then none else O b) σ us ue := fun {us} => by
    induction us with
    | nil => intro ue _ h; cases ue with
      | nil => trivial
      | cons => exact h.elim
    | cons u us ih =>
      intro ue hl h
      cases ue with
      | nil => exact h.elim
      | cons x ue =>
        rw [List.length_cons] at hl
        exact ⟨cm h.1 (by omega), ih (by omega) h.2⟩
  refine ⟨R.ln, fun i a e => ?_, tm (Nat.le_refl _) R.tm.2, R.sf, fun b j z => ?_, R.b1, R.b2, R.b3, R.b5, R.bi, R.tb⟩
  · obtain ⟨v, e1, h⟩ := R.sl i a e
    exact ⟨v, e1, cm h (by have := cl i a e; omega)⟩
  · by_cases hb : O b = some (σ.length + ts.length)
    · have z' : (none : Option Nat) = some j := (if_pos hb).symm.trans z
      cases z'
    · have z' : O b = some j := (if_neg hb).symm.trans z
      obtain ⟨h1, h2, h3, h4⟩ := R.of b j z'
      refine ⟨h1, h2, ?_, h4⟩
      rw [List.length_cons] at h3
      have : j ≠ σ.length + ts.length := fun y => hb (by rw [z', y])
      omega
/-- what the slot i owns is changed -/
theorem RelF.mut (R : RelF K B F O σ env ts te H) {i : Nat} {v : V} {a a' : A} (he : env[i]? = some (some a)) (hv : σ[i]? = some (some v)) (hH : ∀ b, O b ≠ some i → H' b = H b) (hn : ∀ b, O b = some i → MutO (H' b))
    (new : CellO K B F H' O σ i v a') (nn : anyC (isNest i) env te = false) (hio : ∀ o, a = .io o → ∃ o', a' = .io o') : RelF K B F O σ (env.set i (some a')) ts te H' := by
  have il : i < env.length := (List.getElem?_eq_some_iff.mp he).1
  have kb : ∀ j, j ≠ i → ∀ b, O b = some j → O b = some j ∧ H' b = H b := fun j nj b z => ⟨z, hH b (by rw [z]; exact fun y => nj (Option.some.inj y))⟩
  refine ⟨by rw [List.length_set]; exact R.ln, fun j c e => ?_, R.tm.mono (Same.refl F) rfl (fun j h1 _ b z => kb j (by have := R.ln; omega) b z) (fun _ _ _ _ z => z) (fun j k hm b z => kb j ?_ b z), fun b u e => ?_, fun b j z => ?_, R.b1, fun b u hs ht e => ?_, R.b3, fun b e => ?_, fun j hj => ?_, R.tb.1, R.tb.2.mono fun b o t z => by rw [hH b (by rw [R.noT t z]; exact nofun)]; exact z⟩
  · rw [List.getElem?_set] at e
    by_cases ji : i = j
    · subst ji
      rw [if_pos rfl, if_pos il] at e
      cases e
      exact ⟨v, hv, new⟩
    · rw [if_neg ji] at e
      obtain ⟨u, e1, h⟩ := R.sl j c e
      refine ⟨u, e1, h.mono (Same.refl F) (kb j (Ne.symm ji)) (fun _ _ => rfl) (fun _ _ _ _ z => z) (fun i' k ec b z => kb i' ?_ b z)⟩
      rintro rfl
      have := anyC_env nn e
      rw [ec] at this
      simp [isNest] at this
  · rintro rfl
    have := anyC_te nn hm
    simp [isNest] at this
  · by_cases hb : O b = some i
    · rw [(R.of b i hb).1] at e
      cases e
    · rw [hH b hb]
      exact R.sf b u e
  · obtain ⟨h1, h2, h3, h4⟩ := R.of b j z
    refine ⟨h1, ?_, h3, h4⟩
    by_cases hb : O b = some i
    · exact hn b hb
    · rw [hH b hb]; exact h2
  · by_cases hb : O b = some i
    · rcases (R.of b i hb).2.2.2 with y | y
      · rw [y] at e; cases e
      · rw [y.1] at hs; cases hs
    · rw [hH b hb]
      exact R.b2 b u hs ht e
  · by_cases hb : O b = some i
    · exact (hn b hb).1
    · rw [hH b hb]
      exact R.b5 b e
  · obtain ⟨o, ho⟩ := R.bi j hj
    rw [List.getElem?_set]
    by_cases ji : i = j
    · subst ji
      rw [if_pos rfl, if_pos il]
      rw [he] at ho
      obtain ⟨o', e'⟩ := hio o (Option.some.inj (Option.some.inj ho))
      exact ⟨o', by rw [e']⟩
    · rw [if_neg ji]
      exact ⟨o, ho⟩
/-- what the cell j owns is never changed any more -/
def frzF (F H : Hp) (O : Addr → Option Nat) (j : Nat) : Hp := fun b => if O b = some j then H b else F b
def frzO (O : Addr → Option Nat) (j : Nat) : Addr → Option Nat := fun b => if O b = some j then none else O b
theorem frzF_same (R : RelF K B F O σ env ts te H) (j : Nat) : Same F (frzF F H O j) := fun b o e => by
  show (if O b = some j then H b else F b) = some o
  by_cases hb : O b = some j
  · rw [(R.of b j hb).1] at e
    cases e
  · rw [if_neg hb]
    exact e
theorem frzF_sub (R : RelF K B F O σ env ts te H) (j : Nat) : Same (frzF F H O j) H := fun b o e => by
  by_cases hb : O b = some j
  · exact (if_pos hb).symm.trans e
  · exact R.sf b o ((if_neg hb).symm.trans e)
theorem frz_own (R : RelF K B F O σ env ts te H) {j : Nat} {v : V} {o : Ow} (h : CellO K B F H O σ j v (.own o)) {d : Dt} (hd : o.dt = some d) : Dn K (frzF F H O j) v d :=
  OwO.dn (own := fun a => O a = some j ∧ B.H a = none) (frzF_same R j) (fun a z => if_pos z.1) h hd
theorem RelF.frz (R : RelF K B F O σ env ts te H) {j : Nat} (hjo : B.io j = false) {env' : Env} {te' : List A} (hl : env'.length = env.length)
    (hs : ∀ i a, env'[i]? = some (some a) → (i = j ∧ ∃ v, σ[i]? = some (some v) ∧ ∃ x, a = .d x ∧ Dn K (frzF F H O j) v x) ∨ (i ≠ j ∧ env[i]? = some (some a) ∧ isNest j a = false))
    (hb : ∀ i, i ≠ j → env'[i]? = env[i]?) (tm : TmO K B (frzF F H O j) H (frzO O j) σ ts te') : RelF K B (frzF F H O j) (frzO O j) σ env' ts te' H := by
  have k : ∀ i, i ≠ j → ∀ b, O b = some i → frzO O j b = some i ∧ H b = H b := fun i ni b z => ⟨(if_neg (by rw [z]; exact fun y => ni (Option.some.inj y))).trans z, rfl⟩
  refine ⟨by rw [hl]; exact R.ln, fun i a e => ?_, tm, frzF_sub R j, fun b i z => ?_, R.b1.trans (frzF_same R j), R.b2, fun b h1 h2 => ?_, R.b5, fun i hi => ?_, R.tb⟩
  · rcases hs i a e with ⟨rfl, v, hv, x, rfl, hx⟩ | ⟨ni, e', hn⟩
    · exact ⟨v, hv, hx⟩
    · obtain ⟨v, e1, h⟩ := R.sl i a e'
      refine ⟨v, e1, h.mono (frzF_same R j) (k i ni) (fun _ _ => rfl) (fun _ _ _ _ z => z) (fun i' kk ec b z => k i' ?_ b z)⟩
      rintro rfl
      rw [ec] at hn
      simp [isNest] at hn
  · by_cases hb : O b = some j
    · have z' : (none : Option Nat) = some i := (if_pos hb).symm.trans z
      cases z'
    · have z' : O b = some i := (if_neg hb).symm.trans z
      obtain ⟨h1, h2, h3, h4⟩ := R.of b i z'
      exact ⟨(if_neg hb).trans h1, h2, h3, h4⟩
  · by_cases hb : O b = some j
    · rcases (R.of b j hb).2.2.2 with y | y
      · exact .inl y
      · rw [hjo] at y; cases y.2
    · exact R.b3 b h1 (by rw [← show frzF F H O j b = F b from if_neg hb]; exact h2)
  · rw [hb i (fun z => by rw [z, hjo] at hi; cases hi)]
    exact R.bi i hi
theorem TmO.frz (R : RelF K B F O σ env ts te H) {j : Nat} : ∀ {us : List V} {ue : List A}, TmO K B F H O σ us ue → (∀ a ∈ ue, isNest j a = false) → (j < σ.length ∨ σ.length + us.length ≤ j) → TmO K B (frzF F H O j) H (frzO O j) σ us ue
  | [], [], _, _, _ => trivial
  | v :: us, a :: ue, h, hn, hj => by
    rw [List.length_cons] at hj
    have k : ∀ i, i ≠ j → ∀ b, O b = some i → frzO O j b = some i ∧ H b = H b := fun i ni b z => ⟨(if_neg (by rw [z]; exact fun y => ni (Option.some.inj y))).trans z, rfl⟩
    refine ⟨h.1.mono (frzF_same R j) (k _ (by omega)) (fun _ _ => rfl) (fun _ _ _ _ z => z) (fun i' kk ec b z => k i' ?_ b z), TmO.frz R h.2 (fun a ha => hn a (List.mem_cons_of_mem _ ha)) (by omega)⟩
    rintro rfl
    have := hn a List.mem_cons_self
    rw [ec] at this
    simp [isNest] at this
/-- the slot i is frozen -/
theorem RelF.frzS (R : RelF K B F O σ env ts te H) {i : Nat} {o : Ow} {d : Dt} (hd : o.dt = some d) (he : env[i]? = some (some (.own o))) (nn : anyC (isRf i) env te = false) :
    RelF K B (frzF F H O i) (frzO O i) σ (env.set i (some (.d d))) ts te H := by
  have il : i < env.length := (List.getElem?_eq_some_iff.mp he).1
  have nest : ∀ a, isRf i a = false → isNest i a = false := fun a h => by
    cases a with
    | rf j p => cases p with
      | none => rfl
      | some k => exact h
    | _ => rfl
  have hjo : B.io i = false := by
    cases q : B.io i with
    | false => rfl
    | true =>
      obtain ⟨o', ho⟩ := R.bi i q
      rw [he] at ho
      cases ho
  refine R.frz hjo (by rw [List.length_set]) (fun j a e => ?_) (fun j nj => by rw [List.getElem?_set, if_neg (Ne.symm nj)]) (TmO.frz R R.tm (fun a ha => nest a (anyC_te nn ha)) (.inl (by rw [R.ln]; exact il)))
  rw [List.getElem?_set] at e
  by_cases ji : i = j
  · subst ji
    rw [if_pos rfl, if_pos il] at e
    cases e
    obtain ⟨v, hv, h⟩ := R.sl i _ he
    exact .inl ⟨rfl, v, hv, _, rfl, frz_own R h hd⟩
  · rw [if_neg ji] at e
    exact .inr ⟨Ne.symm ji, e, nest a (anyC_env nn e)⟩
/-- the top is frozen -/
theorem RelF.frzT {v : V} {o : Ow} {d : Dt} (hd : o.dt = some d) (R : RelF K B F O σ env (v :: ts) (.own o :: te) H) :
    RelF K B (frzF F H O (σ.length + ts.length)) (frzO O (σ.length + ts.length)) σ env (v :: ts) (.d d :: te) H := by
  have rfn : ∀ {j : Nat} {v : V} {a : A}, CellO K B F H O σ j v a → isNest (σ.length + ts.length) a = false := fun {j v a} h => by
    cases a with
    | rf i p =>
      obtain ⟨w, hw, _⟩ := h
      have := (List.getElem?_eq_some_iff.mp hw).1
      cases p with
      | none => rfl
      | some k =>
        show (i == σ.length + ts.length) = false
        rw [beq_eq_false_iff_ne]
        omega
    | _ => rfl
  have tn : ∀ {us : List V} {ue : List A}, TmO K B F H O σ us ue → ∀ a ∈ ue, isNest (σ.length + ts.length) a = false := fun {us} => by
    induction us with
    | nil => intro ue h a ha; cases ue with
      | nil => cases ha
      | cons => exact h.elim
    | cons u us ih =>
      intro ue h a ha
      cases ue with
      | nil => cases ha
      | cons x ue =>
        rcases List.mem_cons.mp ha with rfl | ha
        · exact rfn h.1
        · exact ih h.2 a ha
  have hjo : B.io (σ.length + ts.length) = false := by
    cases q : B.io (σ.length + ts.length) with
    | false => rfl
    | true =>
      obtain ⟨o', ho⟩ := R.bi _ q
      have := (List.getElem?_eq_some_iff.mp ho).1
      have := R.ln
      omega
  refine R.frz hjo rfl (fun i a e => .inr ⟨?_, e, ?_⟩) (fun _ _ => rfl) ⟨frz_own R R.tm.1 hd, TmO.frz R R.tm.2 (tn R.tm.2) (.inr (Nat.le_refl _))⟩
  · have : i < env.length := (List.getElem?_eq_some_iff.mp e).1
    have := R.ln
    omega
  · obtain ⟨w, hw, h⟩ := R.sl i a e
    exact rfn h
/-- the top goes into the slot i -/
theorem RelF.asg {v : V} {a : A} (R : RelF K B F O σ env (v :: ts) (a :: te) H) {i : Nat} (il : i < env.length) (nio : ∀ o, env[i]? ≠ some (some (.io o))) (nn : anyC (isRf i) env (a :: te) = false) (na : isIo a = false) :
    RelF K B F (fun b => if O b = some (σ.length + ts.length) then some i else if O b = some i then none else O b) (σ.set i (some v)) (env.set i (some a)) ts te H := by
  have ln := R.ln
  have k : ∀ j, j ≠ σ.length + ts.length → j ≠ i → ∀ b, O b = some j → (fun b => if O b = some (σ.length + ts.length) then some i else if O b = some i then none else O b) b = some j ∧ H b = H b := fun j h1 h2 b z =>
    ⟨(if_neg (by rw [z]; exact fun y => h1 (Option.some.inj y))).trans ((if_neg (by rw [z]; exact fun y => h2 (Option.some.inj y))).trans z), rfl⟩
  have rf : ∀ j w, σ[j]? = some (some w) → j ≠ σ.length + ts.length := fun j w e => by have := (List.getElem?_eq_some_iff.mp e).1; omega
  have st : ∀ j w, j ≠ i → σ[j]? = some (some w) → (σ.set i (some v))[j]? = some (some w) := fun j w nj e => by rw [List.getElem?_set, if_neg (Ne.symm nj)]; exact e
  have cm : ∀ {j : Nat} {u : V} {c : A}, CellO K B F H O σ j u c → j ≠ σ.length + ts.length → j ≠ i → isRf i c = false → CellO K B F H (fun b => if O b = some (σ.length + ts.length) then some i else if O b = some i then none else O b) (σ.set i (some v)) j u c := fun {j u c} h nj ni hc => by
    have ri : ∀ i' p, c = .rf i' p → i' ≠ i := fun i' p e z => by
      rw [e, z] at hc
      simp [isRf] at hc
    refine h.mono (Same.refl F) (k j nj ni) (fun _ _ => rfl) (fun i' p w e z => st i' w (ri i' p e) z) (fun i' kk e b z => ?_)
    have e' := ri i' _ e
    rw [e] at h
    obtain ⟨w, hw, _⟩ := h
    exact k i' (rf i' w hw) e' b z
  have tm : ∀ {us : List V} {ue : List A}, us.length ≤ ts.length → (∀ c ∈ ue, isRf i c = false) → TmO K B F H O σ us ue → TmO K B F H (fun b => if O b = some (σ.length + ts.length) then some i else if O b = some i then none else O b) (σ.set i (some v)) us ue := fun {us} => by
    induction us with
    | nil => intro ue _ _ h; cases ue with
      | nil => trivial
      | cons => exact h.elim
    | cons u us ih =>
      intro ue hl hc h
      cases ue with
      | nil => exact h.elim
      | cons x ue =>
        rw [List.length_cons] at hl
        refine ⟨?_, ih (by omega) (fun c z => hc c (List.mem_cons_of_mem _ z)) h.2⟩
        rw [List.length_set]
        exact cm h.1 (by omega) (by omega) (hc x List.mem_cons_self)
  refine ⟨by rw [List.length_set, List.length_set]; exact ln, fun j c e => ?_, tm (Nat.le_refl _) (fun c z => anyC_te nn (List.mem_cons_of_mem _ z)) R.tm.2, R.sf, fun b j z => ?_, R.b1, R.b2, R.b3, R.b5, fun j hj => ?_, R.tb⟩
  · rw [List.getElem?_set] at e
    by_cases ji : i = j
    · subst ji
      rw [if_pos rfl, if_pos il] at e
      cases e
      refine ⟨v, by rw [List.getElem?_set, if_pos rfl, if_pos (by rw [ln]; exact il)], ?_⟩
      have ha := anyC_te nn (List.mem_cons_self (a := a) (l := te))
      refine R.tm.1.mono (Same.refl F) (fun b z => ⟨if_pos z, rfl⟩) (fun o eo => ?_) (fun i' p w e z => st i' w ?_ z) (fun i' kk e b z => ?_)
      · rw [eo] at na
        simp [isIo] at na
      · rintro rfl
        rw [e] at ha
        simp [isRf] at ha
      · have hm := R.tm.1
        have ne : i' ≠ i := by
          rintro rfl
          rw [e] at ha
          simp [isRf] at ha
        rw [e] at hm
        obtain ⟨w, hw, _⟩ := hm
        exact k i' (rf i' w hw) ne b z
    · rw [if_neg ji] at e
      obtain ⟨u, e1, h⟩ := R.sl j c e
      exact ⟨u, st j u (Ne.symm ji) e1, cm h (rf j u e1) (Ne.symm ji) (anyC_env nn e)⟩
  · rw [List.length_set]
    by_cases h1 : O b = some (σ.length + ts.length)
    · have z' : some i = some j := (if_pos h1).symm.trans z
      obtain ⟨q1, q2, q3, q4⟩ := R.of b _ h1
      refine ⟨q1, q2, ?_, .inl ?_⟩
      · rw [← Option.some.inj z']
        omega
      · rcases q4 with q4 | ⟨_, q4⟩
        · exact q4
        · obtain ⟨o', ho⟩ := R.bi _ q4
          have := (List.getElem?_eq_some_iff.mp ho).1
          omega
    · have z1 : (if O b = some i then none else O b) = some j := (if_neg h1).symm.trans z
      by_cases h2 : O b = some i
      · rw [if_pos h2] at z1
        cases z1
      · rw [if_neg h2] at z1
        obtain ⟨q1, q2, q3, q4⟩ := R.of b j z1
        refine ⟨q1, q2, ?_, q4⟩
        rw [List.length_cons] at q3
        have : j ≠ σ.length + ts.length := fun y => h1 (by rw [z1, y])
        omega
  · obtain ⟨o, ho⟩ := R.bi j hj
    refine ⟨o, ?_⟩
    rw [List.getElem?_set, if_neg (fun z => nio o (by rw [z]; exact ho))]
    exact ho
end
end Tw

namespace Tw
open PySem PySem.Spec PyProof.Rows L2
/-! ### mirrors as functions: what a text does to values -/
inductive Rs (α : Type) where
  | ok (a : α) (e : Env)
  | ex (x : Xc) (e : Env)
  | bad
def Rs.bind {α β : Type} (r : Rs α) (f : α → Env → Rs β) : Rs β := match r with
  | .ok a e => f a e
  | .ex x e => .ex x e
  | .bad => .bad
@[simp] theorem Rs.bind_ok {α β : Type} (a : α) (e : Env) (f : α → Env → Rs β) : (Rs.ok a e).bind f = f a e := rfl
@[simp] theorem Rs.bind_ex {α β : Type} (x : Xc) (e : Env) (f : α → Env → Rs β) : (Rs.ex x e : Rs α).bind f = .ex x e := rfl
@[simp] theorem Rs.bind_bad {α β : Type} (f : α → Env → Rs β) : (Rs.bad : Rs α).bind f = .bad := rfl
abbrev ME := Env → List A → Rs A
abbrev MA := Env → List A → Rs (List A)
abbrev MT := Env → List A → Rs Bool
inductive Fl where
  | nx (e : Env)
  | rt (a : A) (e : Env)
  | bk (e : Env)
  | ct (e : Env)
  | ex (x : Xc) (e : Env)
  | bad
abbrev MS := Env → List A → Fl
/-- how an exception stands -/
def XIs (K : KW) (x : Xc) (us : List V) (cls : Value) (d : Option Addr) (H : Hp) : Prop := cls = .ref (He.ga K x.cls) ∧ ((x.fs = [] ∧ d = none) ∨ ∃ dx, d = some dx ∧ H dx = some (.xd ((x.fs.map (·.1)).zip us)))
/-! ### reading a cell -/
def lkD {α : Type} (kvs : List (Key × α)) (k : Key) : Option α := (kvs.find? fun kv => decide (kv.1 = k)).map (·.2)
def putD {α : Type} (kvs : List (Key × α)) (k : Key) (v : α) : List (Key × α) :=
  if (kvs.any fun kv => decide (kv.1 = k)) = true then kvs.map (fun kv => if kv.1 = k then (kv.1, v) else kv) else kvs ++ [(k, v)]
def owAt (env : Env) (i : Nat) : Option Ow := match env[i]? with
  | some (some (.own o)) => some o
  | some (some (.io o)) => some o
  | _ => none
def Ow.sub : Ow → Key → Option (List Dt)
  | .ll xss, .inl n => if 0 ≤ n then xss[n.toNat]? else none
  | .dl kvs, k => lkD kvs k
  | _, _ => none
/-- the thing that is told, if owned -/
def A.ow (env : Env) : A → Option Ow
  | .d _ => none
  | .own o => some o
  | .io o => some o
  | .rf i none => owAt env i
  | .rf i (some k) => match owAt env i with
    | some o => (o.sub k).map .l
    | none => none
  | .sc _ => none
  | .q _ => none
  | .lk _ => none
  | .xr _ => none
def A.val (env : Env) (a : A) : Option Dt := match a with
  | .d x => some x
  | .lk kvs => some (.dict kvs)
  | a => (a.ow env).bind Ow.dt
section
variable {K : KW} {B : Bs} {F H : Hp} {O : Addr → Option Nat} {σ : List (Option V)} {env : Env} {ts : List V} {te : List A} {W : WX}
theorem paired_lk {α : Type} {R : V → α → Prop} {us : List (Key × V)} {kvs : List (Key × α)} (p : Paired (fun (p : Key × V) (q : Key × α) => p.1 = q.1 ∧ R p.2 q.2) us kvs) (k : Key) :
    (∀ x, lkD kvs k = some x → ∃ v, valV us k = some v ∧ R v x) ∧ (lkD kvs k = none → valV us k = none) := by
  induction p with
  | nil => exact ⟨(fun x h => nomatch h), fun _ => rfl⟩
  | @cons p q ps qs h _ ih =>
    obtain ⟨e, r⟩ := h
    unfold lkD valV
    rw [List.find?_cons, List.find?_cons, e]
    by_cases c : q.1 = k
    · rw [decide_eq_true c]
      exact ⟨fun x h => ⟨p.2, rfl, by cases h; exact r⟩, fun h => nomatch h⟩
    · rw [decide_eq_false c]
      exact ih
theorem RelF.owAt (R : RelF K B F O σ env ts te H) {i : Nat} {o : Ow} {w : V} (h : owAt env i = some o) (hw : σ[i]? = some (some w)) : OwO K F H (fun a => O a = some i) w o := by
  unfold Tw.owAt at h
  cases e : env[i]? with
  | none => rw [e] at h; cases h
  | some c =>
    cases c with
    | none => rw [e] at h; cases h
    | some a =>
      rw [e] at h
      obtain ⟨v, hv, q⟩ := R.sl i a e
      rw [hw] at hv
      cases hv
      cases a with
      | d x => cases h
      | own o' => cases h; exact OwO.mono (own := fun a => O a = some i ∧ B.H a = none) (Same.refl F) (fun a z => z.1) (fun a z => rfl) q
      | io o' => cases h; exact q.1
      | rf j p => cases h
      | sc ns => cases h
      | q xs => cases h
      | lk xs => cases h
      | xr xs => cases h
theorem cell_ow (R : RelF K B F O σ env ts te H) {j : Nat} {v : V} {a : A} {o : Ow} (c : CellO K B F H O σ j v a) (h : a.ow env = some o) : ∃ own : Addr → Prop, OwO K F H own v o := by
  cases a with
  | d x => cases h
  | sc x => cases h
  | q x => cases h
  | lk x => cases h
  | xr x => cases h
  | own o' => cases h; exact ⟨_, c⟩
  | io o' => cases h; exact ⟨_, c.1⟩
  | rf i p =>
    obtain ⟨w, hw, q⟩ := c
    cases p with
    | none => cases q; exact ⟨_, R.owAt h hw⟩
    | some k =>
      have h' : (match Tw.owAt env i with | some o => (o.sub k).map Ow.l | none => none) = some o := h
      cases e : Tw.owAt env i with
      | none => rw [e] at h'; cases h'
      | some u =>
        rw [e] at h'
        obtain ⟨a, ew, oa, q⟩ := q
        have z := R.owAt e hw
        cases hs : u.sub k with
        | none => rw [show (match some u with | some o => (o.sub k).map Ow.l | none => none) = (u.sub k).map Ow.l from rfl, hs] at h'; cases h'
        | some xs =>
          rw [show (match some u with | some o => (o.sub k).map Ow.l | none => none) = (u.sub k).map Ow.l from rfl, hs] at h'
          cases h'
          refine ⟨fun a => O a = some i, ?_⟩
          cases u with
          | l _ => cases hs
          | dc _ => cases hs
          | x _ => cases hs
          | ll xss =>
            obtain ⟨a', vs, e1, o1, h1, n1, m1, p1⟩ := z
            rw [ew] at e1
            cases e1
            cases k with
            | inr _ => cases hs
            | inl n =>
              have hs' : (if 0 ≤ n then xss[n.toNat]? else none) = some xs := hs
              by_cases n0 : 0 ≤ n
              · rw [if_pos n0] at hs'
                rcases q with ⟨vs', m, em, m0, hv, hq⟩ | ⟨us, hu, _⟩
                · cases em
                  rw [h1] at hv
                  cases hv
                  obtain ⟨x, hx, r⟩ := paired_getR p1 hs'
                  rw [hq] at hx
                  cases hx
                  exact r
                · rw [h1] at hu; cases hu
              · rw [if_neg n0] at hs'; cases hs'
          | dl kvs =>
            obtain ⟨a', us, e1, o1, h1, n1, m1, p1⟩ := z
            rw [ew] at e1
            cases e1
            rcases q with ⟨vs', m, em, m0, hv, hq⟩ | ⟨us', hu, hq⟩
            · rw [h1] at hv; cases hv
            · rw [h1] at hu
              cases hu
              obtain ⟨x, hx, r⟩ := (paired_lk (R := OwL K F H fun a => O a = some i) p1 k).1 xs hs
              rw [hq] at hx
              cases hx
              exact r
theorem owo_H {own : Addr → Prop} {v : V} {o : Ow} (s : Same F H) (h : OwO K F H own v o) {d : Dt} (hd : o.dt = some d) : Dn K H v d := OwO.dn s (fun _ _ => rfl) h hd
theorem cell_val (R : RelF K B F O σ env ts te H) {j : Nat} {v : V} {a : A} {x : Dt} (c : CellO K B F H O σ j v a) (h : a.val env = some x) : Dn K H v x := by
  have g : ∀ o, a.ow env = some o → o.dt = some x → Dn K H v x := fun o e1 e2 => by
    obtain ⟨own, q⟩ := cell_ow R c e1
    exact owo_H R.sf q e2
  have g2 : (a.ow env).bind Ow.dt = some x → Dn K H v x := fun h => by
    cases e : a.ow env with
    | none => rw [e] at h; cases h
    | some o => rw [e] at h; exact g o e h
  cases a with
  | d y => cases h; exact Dn.same R.sf c
  | own o => exact g2 h
  | io o => exact g2 h
  | rf i p => exact g2 h
  | sc x => exact g2 h
  | q x => exact g2 h
  | lk kvs =>
    cases h
    obtain ⟨a, o, us, e, q, d⟩ := c
    subst e
    exact .dct (.inr ⟨o, R.sf _ _ (R.b1 _ _ q)⟩) (d.same (R.b1.trans R.sf))
  | xr x => exact g2 h
/-- the items of a list -/
def Ow.lst? : Ow → Option (List Dt)
  | .l xs => some xs
  | _ => none
def A.lstT? (env : Env) (a : A) : Option (List Dt) := match a with
  | .d (.list xs) => some xs
  | .d _ => none
  | a => (a.ow env).bind Ow.lst?
def A.lst? (env : Env) (a : A) : Option (List Dt) := match a with
  | .sc ns => some (ns.map .int)
  | a => a.lstT? env
def A.tup? : A → Option (List Dt)
  | .d (.tuple xs) => some xs
  | .q xs => some xs
  | _ => none
theorem dn_ints : ∀ ns : List Int, DnAll K F (ns.map V.int) (ns.map .int)
  | [] => .nil
  | n :: ns => .cons (.int n) (dn_ints ns)
theorem cell_lstT (R : RelF K B F O σ env ts te H) {j : Nat} {v : V} {a : A} {xs : List Dt} (c : CellO K B F H O σ j v a) (h : a.lstT? env = some xs) : ∃ p vs, v = .ref p ∧ H p = some (.lst vs) ∧ DnAll K F vs xs := by
  have g2 : (a.ow env).bind Ow.lst? = some xs → ∃ p vs, v = .ref p ∧ H p = some (.lst vs) ∧ DnAll K F vs xs := fun h => by
    cases e : a.ow env with
    | none => rw [e] at h; cases h
    | some o =>
      rw [e] at h
      obtain ⟨own, q⟩ := cell_ow R c e
      cases o with
      | l ys =>
        cases h
        obtain ⟨p, vs, e1, _, h1, d⟩ := q
        exact ⟨p, vs, e1, h1, d⟩
      | _ => cases h
  cases a with
  | d y =>
    cases y with
    | list ys =>
      cases h
      cases c with
      | lst h1 h2 => exact ⟨_, _, rfl, R.sf _ _ h1, h2⟩
    | _ => cases h
  | own o => exact g2 h
  | io o => exact g2 h
  | rf i p => exact g2 h
  | sc x => exact g2 h
  | q x => exact g2 h
  | lk x => exact g2 h
  | xr x => exact g2 h
theorem cell_lst (R : RelF K B F O σ env ts te H) {j : Nat} {v : V} {a : A} {xs : List Dt} (c : CellO K B F H O σ j v a) (h : a.lst? env = some xs) : ∃ p vs, v = .ref p ∧ SqL K H p vs ∧ DnAll K F vs xs := by
  have g : a.lstT? env = some xs → ∃ p vs, v = .ref p ∧ SqL K H p vs ∧ DnAll K F vs xs := fun h => by
    obtain ⟨p, vs, e, h1, h2⟩ := cell_lstT R c h
    exact ⟨p, vs, e, .inl (.inl h1), h2⟩
  cases a with
  | sc ns =>
    cases h
    obtain ⟨p, e, q⟩ := c
    exact ⟨p, _, e, Same.sqL R.sf q, dn_ints ns⟩
  | d x => exact g h
  | own o => exact g h
  | io o => exact g h
  | rf i p => exact g h
  | q x => exact g h
  | lk x => exact g h
  | xr x => exact g h
theorem cell_tup (R : RelF K B F O σ env ts te H) {j : Nat} {v : V} {a : A} {xs : List Dt} (c : CellO K B F H O σ j v a) (h : a.tup? = some xs) : ∃ p vs, v = .ref p ∧ SqT K H p vs ∧ SqT K F p vs ∧ DnAll K F vs xs := by
  cases a with
  | d y =>
    cases y with
    | tuple ys =>
      cases h
      cases c with
      | tup h1 h2 => exact ⟨_, _, rfl, Same.sqT' R.sf h1.sq, h1.sq, h2⟩
    | _ => cases h
  | q ys =>
    cases h
    obtain ⟨p, vs, e, h1, h2⟩ := c
    exact ⟨p, vs, e, Same.sqT' R.sf h1, h1, h2⟩
  | _ => cases h
theorem dn_tup {v : V} {xs : List Dt} (c : Dn K F v (.tuple xs)) : ∃ p vs, v = .ref p ∧ TupN K F p vs ∧ DnAll K F vs xs := by
  cases c with
  | tup h1 h2 => exact ⟨_, _, rfl, h1, h2⟩
/-! ### what is put on top -/
theorem RelF.rel (R : RelF K B F O σ env ts te H) : Rel K B σ env ts te H := ⟨F, O, R⟩
theorem RelF.pushD (R : RelF K B F O σ env ts te H) {v : V} {x : Dt} (h : Dn K F v x) : Rel K B σ env (v :: ts) (.d x :: te) H := ⟨F, O, R.push (a := .d x) h⟩
theorem RelF.pushT (R : RelF K B F O σ env ts te H) {p : Addr} (h : H p = none) {ob : Obj} (hob : ob.dict = none) {vs : List V} {xs : List Dt} (d : DnAll K F vs xs) : Rel K B σ env (.ref p :: ts) (.d (.tuple xs) :: te) (upd H p (.frz ob (.tup vs))) := by
  have R' := R.new h (.frz ob (.tup vs))
  exact R'.pushD (.tup (.inl ⟨ob, upd_same, hob⟩) (d.same (same_newV (R.fresh h).1)))
theorem RelF.pushQ (R : RelF K B F O σ env ts te H) {p : Addr} (h : H p = none) {vs : List V} {xs : List Dt} (d : DnAll K F vs xs) : Rel K B σ env (.ref p :: ts) (.q xs :: te) (upd H p (.tup vs)) := by
  have R' := R.new h (.tup vs)
  exact ⟨_, _, R'.push (a := .q xs) ⟨p, vs, rfl, .inl (.inl upd_same), d.same (same_newV (R.fresh h).1)⟩⟩
theorem RelF.pushL (R : RelF K B F O σ env ts te H) {p : Addr} (h : H p = none) {vs : List V} {xs : List Dt} (d : DnAll K F vs xs) : Rel K B σ env (.ref p :: ts) (.own (.l xs) :: te) (upd H p (.lst vs)) :=
  ⟨F, _, R.newL h (o := .lst vs) (mutO_lst vs) (w := .l xs) fun own hp => ⟨p, vs, rfl, hp, upd_same, d⟩⟩
theorem Rel.pop {v : V} {a : A} (R : Rel K B σ env (v :: ts) (a :: te) H) : Rel K B σ env ts te H := by
  obtain ⟨F, O, R⟩ := R
  exact ⟨F, _, R.pop⟩
theorem Rel.len (R : Rel K B σ env ts te H) : σ.length = env.length ∧ ts.length = te.length := by
  obtain ⟨F, O, R⟩ := R
  exact ⟨R.ln, R.tm.len⟩
theorem popN : ∀ {us : List V} {ue : List A} {O : Addr → Option Nat}, us.length = ue.length → RelF K B F O σ env (us ++ ts) (ue ++ te) H → ∃ O', RelF K B F O' σ env ts te H
  | [], [], O, _, R => ⟨O, R⟩
  | [], _ :: _, _, h, _ => nomatch h
  | _ :: _, [], _, h, _ => nomatch h
  | u :: us, a :: ue, O, h, R => popN (Nat.succ.inj h) (RelF.pop (v := u) (a := a) R)
theorem Rel.popN {us : List V} {ue : List A} (R : Rel K B σ env (us ++ ts) (ue ++ te) H) (h : us.length = ue.length) : Rel K B σ env ts te H := by
  obtain ⟨F, O, R⟩ := R
  obtain ⟨O', R'⟩ := Tw.popN h R
  exact ⟨F, O', R'⟩
end

section
variable {K : KW} {B : Bs} {W : WX}
def XPost (K : KW) (B : Bs) (W : WX) (σ : L2.St) (ts : List V) (te : List A) (x : Xc) (e : Env) : Prop := ∀ cls d H us F O, RelF K B F O σ e ts te H → DnAll K F us (x.fs.map (·.2)) → XIs K x us cls d F → W cls d σ H
def PE' (K : KW) (B : Bs) (W : WX) (σ : L2.St) (ts : List V) (te : List A) (Q : VK) : Rs A → Prop
  | .ok a e => ∀ v H, Rel K B σ e (v :: ts) (a :: te) H → Q v H
  | .ex x e => XPost K B W σ ts te x e
  | .bad => False
def PA' (K : KW) (B : Bs) (W : WX) (σ : L2.St) (ts : List V) (te : List A) (Q : List V → Hp → Prop) : Rs (List A) → Prop
  | .ok as e => ∀ vs H, vs.length = as.length → Rel K B σ e (vs.reverse ++ ts) (as.reverse ++ te) H → Q vs H
  | .ex x e => XPost K B W σ ts te x e
  | .bad => False
def PT' (K : KW) (B : Bs) (W : WX) (σ : L2.St) (ts : List V) (te : List A) (Q : Bool → Hp → Prop) : Rs Bool → Prop
  | .ok b e => ∀ H, Rel K B σ e ts te H → Q b H
  | .ex x e => XPost K B W σ ts te x e
  | .bad => False
def PS' (K : KW) (B : Bs) (W : WX) (ts : List V) (te : List A) (D : Ends) : Fl → Prop
  | .nx e => ∀ σ H, Rel K B σ e ts te H → D.nx σ H
  | .rt a e => ∀ v σ ts' te' H, Rel K B σ e (v :: ts') (a :: te') H → D.rt v H
  | .bk e => ∀ σ H, Rel K B σ e ts te H → D.bk σ H
  | .ct e => ∀ σ H, Rel K B σ e ts te H → D.ct σ H
  | .ex x e => ∀ σ, XPost K B W σ ts te x e
  | .bad => False
def SE (K : KW) (B : Bs) (W : WX) (t : TE) (m : ME) : Prop := ∀ σ env ts te H Q, Rel K B σ env ts te H → PE' K B W σ ts te Q (m env te) → t σ H Q
def SA (K : KW) (B : Bs) (W : WX) (t : TA) (m : MA) : Prop := ∀ σ env ts te H Q, Rel K B σ env ts te H → PA' K B W σ ts te Q (m env te) → t σ H Q
def ST (K : KW) (B : Bs) (W : WX) (t : TT) (m : MT) : Prop := ∀ σ env ts te H Q, Rel K B σ env ts te H → PT' K B W σ ts te Q (m env te) → t σ H Q
def SS (K : KW) (B : Bs) (W : WX) (t : TS) (m : MS) : Prop := ∀ σ env ts te H D, Rel K B σ env ts te H → PS' K B W ts te D (m env te) → t D σ H
theorem XPost.push {σ : L2.St} {ts : List V} {te : List A} {x : Xc} {e : Env} (h : XPost K B W σ ts te x e) (v : V) (a : A) : XPost K B W σ (v :: ts) (a :: te) x e :=
  fun cls d H us F O R => h cls d H us F _ R.pop
theorem SE.thE {t : TE} {m : ME} (h : SE K B W t m) {σ : L2.St} {env : Env} {ts : List V} {te : List A} {H : Hp} {Q Q0 : VK} (R : Rel K B σ env ts te H) {f : A → Env → Rs A} (p : PE' K B W σ ts te Q0 ((m env te).bind f))
    (hok : ∀ a e, PE' K B W σ ts te Q0 (f a e) → ∀ v H', Rel K B σ e (v :: ts) (a :: te) H' → Q v H') : t σ H Q := by
  refine h σ env ts te H Q R ?_
  cases e : m env te with
  | ok a e' => rw [e] at p; exact hok a e' p
  | ex x e' => rw [e] at p; exact p
  | bad => rw [e] at p; exact p
theorem SE.thT {t : TE} {m : ME} (h : SE K B W t m) {σ : L2.St} {env : Env} {ts : List V} {te : List A} {H : Hp} {Q : VK} {Q0 : Bool → Hp → Prop} (R : Rel K B σ env ts te H) {f : A → Env → Rs Bool} (p : PT' K B W σ ts te Q0 ((m env te).bind f))
    (hok : ∀ a e, PT' K B W σ ts te Q0 (f a e) → ∀ v H', Rel K B σ e (v :: ts) (a :: te) H' → Q v H') : t σ H Q := by
  refine h σ env ts te H Q R ?_
  cases e : m env te with
  | ok a e' => rw [e] at p; exact hok a e' p
  | ex x e' => rw [e] at p; exact p
  | bad => rw [e] at p; exact p
theorem SE.thA {t : TE} {m : ME} (h : SE K B W t m) {σ : L2.St} {env : Env} {ts : List V} {te : List A} {H : Hp} {Q : VK} {Q0 : List V → Hp → Prop} (R : Rel K B σ env ts te H) {f : A → Env → Rs (List A)} (p : PA' K B W σ ts te Q0 ((m env te).bind f))
    (hok : ∀ a e, PA' K B W σ ts te Q0 (f a e) → ∀ v H', Rel K B σ e (v :: ts) (a :: te) H' → Q v H') : t σ H Q := by
  refine h σ env ts te H Q R ?_
  cases e : m env te with
  | ok a e' => rw [e] at p; exact hok a e' p
  | ex x e' => rw [e] at p; exact p
  | bad => rw [e] at p; exact p
theorem ST.thE {t : TT} {m : MT} (h : ST K B W t m) {σ : L2.St} {env : Env} {ts : List V} {te : List A} {H : Hp} {Q : Bool → Hp → Prop} {Q0 : VK} (R : Rel K B σ env ts te H) {f : Bool → Env → Rs A} (p : PE' K B W σ ts te Q0 ((m env te).bind f))
    (hok : ∀ a e, PE' K B W σ ts te Q0 (f a e) → ∀ H', Rel K B σ e ts te H' → Q a H') : t σ H Q := by
  refine h σ env ts te H Q R ?_
  cases e : m env te with
  | ok a e' => rw [e] at p; exact hok a e' p
  | ex x e' => rw [e] at p; exact p
  | bad => rw [e] at p; exact p
theorem ST.thT {t : TT} {m : MT} (h : ST K B W t m) {σ : L2.St} {env : Env} {ts : List V} {te : List A} {H : Hp} {Q Q0 : Bool → Hp → Prop} (R : Rel K B σ env ts te H) {f : Bool → Env → Rs Bool} (p : PT' K B W σ ts te Q0 ((m env te).bind f))
    (hok : ∀ a e, PT' K B W σ ts te Q0 (f a e) → ∀ H', Rel K B σ e ts te H' → Q a H') : t σ H Q := by
  refine h σ env ts te H Q R ?_
  cases e : m env te with
  | ok a e' => rw [e] at p; exact hok a e' p
  | ex x e' => rw [e] at p; exact p
  | bad => rw [e] at p; exact p
theorem SA.thE {t : TA} {m : MA} (h : SA K B W t m) {σ : L2.St} {env : Env} {ts : List V} {te : List A} {H : Hp} {Q : List V → Hp → Prop} {Q0 : VK} (R : Rel K B σ env ts te H) {f : List A → Env → Rs A} (p : PE' K B W σ ts te Q0 ((m env te).bind f))
    (hok : ∀ as e, PE' K B W σ ts te Q0 (f as e) → ∀ vs H', vs.length = as.length → Rel K B σ e (vs.reverse ++ ts) (as.reverse ++ te) H' → Q vs H') : t σ H Q := by
  refine h σ env ts te H Q R ?_
  cases e : m env te with
  | ok a e' => rw [e] at p; exact hok a e' p
  | ex x e' => rw [e] at p; exact p
  | bad => rw [e] at p; exact p
end
end Tw

namespace Tw
open PySem PySem.Spec PyProof.Rows L2
/-! ### expressions -/
def vA (i : Nat) : A → A
  | .own _ => .rf i none
  | .io _ => .rf i none
  | a => a
def mVar (i : Nat) : ME := fun env _ => match env[i]? with
  | some (some a) => .ok (vA i a) env
  | _ => .bad
def mC (x : Dt) : ME := fun env _ => .ok (.d x) env
def mNil : MA := fun env _ => .ok [] env
def mCons (m : ME) (r : MA) : MA := fun env te => (m env te).bind fun a e1 => (r e1 (a :: te)).bind fun as e2 => .ok (a :: as) e2
/-- made a datum -/
def frzA (a : A) (env : Env) (te : List A) : Option (Dt × Env) := match a with
  | .d x => some (x, env)
  | .own o => o.dt.map fun x => (x, env)
  | .rf i none => match env[i]? with
    | some (some (.own o)) => if anyC (isRf i) env te = false then o.dt.map (fun x => (x, env.set i (some (.d x)))) else none
    | _ => none
  | _ => none
def mD (m : ME) : ME := fun env te => (m env te).bind fun a e => match frzA a e te with
  | some (x, e') => .ok (.d x) e'
  | none => .bad
def mOp (f : Env → A → A → Rs A) (ma mb : ME) : ME := fun env te => (ma env te).bind fun a e1 => (mb e1 (a :: te)).bind fun b e2 => f e2 a b
def mU (f : Env → A → Rs A) (ma : ME) : ME := fun env te => (ma env te).bind fun a e1 => f e1 a
def mCB (f : Env → List A → Rs A) (m : MA) : ME := fun env te => (m env te).bind fun as e => f e as
def vOf : Dt → V
  | .bool b => .bl b
  | .int i => .int i
  | .str s => .str s
  | _ => .non
def flatD : Dt → Bool
  | .none => true
  | .bool _ => true
  | .int _ => true
  | .str s => decide (s.length ≤ sizeLine)
  | _ => false
theorem dn_flat {K : KW} {F : Hp} : ∀ {z : Dt}, flatD z = true → Dn K F (vOf z) z
  | .none, _ => .non
  | .bool b, _ => .bl b
  | .int i, _ => .int i
  | .str s, h => .str s (of_decide_eq_true h)
  | .list _, h => nomatch h
  | .tuple _, h => nomatch h
  | .dict _, h => nomatch h
/-- a flat answer of data -/
def fl2 (g : Dt → Dt → Option Dt) : Env → A → A → Rs A := fun env a b => match a.val env, b.val env with
  | some x, some y => match g x y with
    | some z => .ok (.d z) env
    | none => .bad
  | _, _ => .bad
def fl1 (g : Dt → Option Dt) : Env → A → Rs A := fun env a => match a.val env with
  | some x => match g x with
    | some z => .ok (.d z) env
    | none => .bad
  | none => .bad
section
variable {K : KW} {B : Bs} {W : WX}
def SO1 (K : KW) (B : Bs) (W : WX) (r : V → Hp → VK → Prop) (f : Env → A → Rs A) : Prop := ∀ σ env ts te H Q v a, Rel K B σ env (v :: ts) (a :: te) H → PE' K B W σ ts te Q (f env a) → r v H Q
def SO2 (K : KW) (B : Bs) (W : WX) (r : R2) (f : Env → A → A → Rs A) : Prop := ∀ σ env ts te H Q v u a b, Rel K B σ env (u :: v :: ts) (b :: a :: te) H → PE' K B W σ ts te Q (f env a b) → r v u H Q
def SOA (K : KW) (B : Bs) (W : WX) (r : List V → Hp → VK → Prop) (f : Env → List A → Rs A) : Prop := ∀ σ env ts te H Q vs as, vs.length = as.length → Rel K B σ env (vs.reverse ++ ts) (as.reverse ++ te) H → PE' K B W σ ts te Q (f env as) → r vs H Q
theorem se_var (i : Nat) : SE K B W (tVar i) (mVar i) := by
  intro σ env ts te H Q R p
  obtain ⟨F, O, R⟩ := R
  unfold mVar at p
  cases e : env[i]? with
  | none => rw [e] at p; exact p.elim
  | some c =>
    cases c with
    | none => rw [e] at p; exact p.elim
    | some a =>
      rw [e] at p
      obtain ⟨v, hv, q⟩ := R.sl i a e
      refine ⟨v, hv, ?_⟩
      cases a with
      | d x => exact p v H (R.pushD q)
      | own o => exact p v H ⟨F, O, R.push (a := .rf i none) ⟨v, hv, rfl⟩⟩
      | io o => exact p v H ⟨F, O, R.push (a := .rf i none) ⟨v, hv, rfl⟩⟩
      | rf j q' => exact p v H ⟨F, O, R.push (a := .rf j q') q⟩
      | sc ns => exact p v H ⟨F, O, R.push (a := .sc ns) q⟩
      | q xs => exact p v H ⟨F, O, R.push (a := .q xs) q⟩
      | lk xs => exact p v H ⟨F, O, R.push (a := .lk xs) q⟩
      | xr xs => exact p v H ⟨F, O, R.push (a := .xr xs) q⟩
theorem se_c {x : Dt} (hf : flatD x = true) : SE K B W (tC (vOf x)) (mC x) := by
  intro σ env ts te H Q R p
  obtain ⟨F, O, R⟩ := R
  exact p _ H (R.pushD (dn_flat hf))
theorem se_non : SE K B W (tC .non) (mC .none) := se_c (x := .none) rfl
theorem se_bl (b : Bool) : SE K B W (tC (.bl b)) (mC (.bool b)) := se_c (x := .bool b) rfl
theorem se_int (i : Int) : SE K B W (tC (.int i)) (mC (.int i)) := se_c (x := .int i) rfl
theorem se_str (s : Str) (h : decide (s.length ≤ sizeLine) = true) : SE K B W (tC (.str s)) (mC (.str s)) := se_c (x := .str s) h
/-- a module's tuple of texts -/
theorem se_gt {x : Str} {ss : List Str} (h : ∀ H, TupN K H (He.ga K x) (ss.map V.str)) (hs : ss.all (fun s => decide (s.length ≤ sizeLine)) = true) : SE K B W (tC (.ref (He.ga K x))) (mC (.tuple (ss.map .str))) := by
  intro σ env ts te H Q R p
  obtain ⟨F, O, R⟩ := R
  exact p _ H (R.pushD (.tup (h F) (DnAll.ofStrs fun s z => of_decide_eq_true (List.all_eq_true.mp hs s z))))
theorem sa_nil : SA K B W tNil mNil := fun σ env ts te H Q R p => p [] H rfl R
theorem sa_cons {t : TE} {tr : TA} {m : ME} {r : MA} (h1 : SE K B W t m) (h2 : SA K B W tr r) : SA K B W (tCons t tr) (mCons m r) := by
  intro σ env ts te H Q R p
  refine h1.thA R p (fun a e p v H' R' => ?_)
  refine h2 σ e (v :: ts) (a :: te) H' _ R' ?_
  have p : PA' K B W σ ts te Q ((r e (a :: te)).bind fun as e2 => .ok (a :: as) e2) := p
  cases q : r e (a :: te) with
  | ok as e2 =>
    rw [q] at p
    intro vs H2 hl R2
    refine p (v :: vs) H2 (congrArg (· + 1) hl) ?_
    rw [List.reverse_cons, List.append_assoc, List.reverse_cons, List.append_assoc]
    exact R2
  | ex x e2 => rw [q] at p; exact XPost.push p v a
  | bad => rw [q] at p; exact p
theorem rel_frz {σ : L2.St} {env e' : Env} {ts : List V} {te : List A} {H : Hp} {v : V} {a : A} {x : Dt} (R : Rel K B σ env (v :: ts) (a :: te) H) (h : frzA a env te = some (x, e')) : Rel K B σ e' (v :: ts) (.d x :: te) H := by
  obtain ⟨F, O, R⟩ := R
  cases a with
  | d y => cases h; exact ⟨F, O, R⟩
  | own o =>
    have h : o.dt.map (fun x => (x, env)) = some (x, e') := h
    cases hd : o.dt with
    | none => rw [hd] at h; cases h
    | some d => rw [hd] at h; cases h; exact ⟨_, _, R.frzT hd⟩
  | io o => cases h
  | sc ns => cases h
  | q ns => cases h
  | lk ns => cases h
  | xr ns => cases h
  | rf i p =>
    cases p with
    | some k => cases h
    | none =>
      cases e : env[i]? with
      | none => simp [frzA, e] at h
      | some c =>
        cases c with
        | none => simp [frzA, e] at h
        | some a =>
          cases a with
          | own o =>
            simp only [frzA, e] at h
            split at h
            · rename_i nn
              cases hd : o.dt with
              | none => rw [hd] at h; cases h
              | some d =>
              rw [hd] at h
              cases h
              obtain ⟨w, hw, q⟩ := R.tm.1
              have q : v = w := q
              subst q
              have R1 := (R.pop).frzS hd e nn
              obtain ⟨v', hv', h'⟩ := R1.sl i (.d x) (by rw [List.getElem?_set, if_pos rfl, if_pos (List.getElem?_eq_some_iff.mp e).1])
              rw [hw] at hv'
              cases hv'
              exact R1.pushD h'
            · cases h
          | _ => simp [frzA, e] at h
theorem se_D {t : TE} {m : ME} (h : SE K B W t m) : SE K B W t (mD m) := by
  intro σ env ts te H Q R p
  refine h.thE R p (fun a e p v H' R' => ?_)
  have p : PE' K B W σ ts te Q (match frzA a e te with | some (x, e') => .ok (.d x) e' | none => .bad) := p
  cases q : frzA a e te with
  | none => rw [q] at p; exact p.elim
  | some y => rw [q] at p; exact p v H' (rel_frz R' q)
theorem se_op {r : R2} {f : Env → A → A → Rs A} {ta tb : TE} {ma mb : ME} (o : SO2 K B W r f) (ha : SE K B W ta ma) (hb : SE K B W tb mb) : SE K B W (tOp r ta tb) (mOp f ma mb) := by
  intro σ env ts te H Q R p
  refine ha.thE R p (fun a e p v H' R' => ?_)
  refine hb σ e (v :: ts) (a :: te) H' _ R' ?_
  have p : PE' K B W σ ts te Q ((mb e (a :: te)).bind fun b e2 => f e2 a b) := p
  cases q : mb e (a :: te) with
  | ok b e2 =>
    rw [q] at p
    intro u H2 R2
    exact o σ e2 ts te H2 Q v u a b R2 p
  | ex x e2 => rw [q] at p; exact XPost.push p v a
  | bad => rw [q] at p; exact p
theorem se_cb {r : List V → Hp → VK → Prop} {f : Env → List A → Rs A} {t : TA} {m : MA} (o : SOA K B W r f) (h : SA K B W t m) : SE K B W (tCB r t) (mCB f m) := by
  intro σ env ts te H Q R p
  refine h σ env ts te H _ R ?_
  have p : PE' K B W σ ts te Q ((m env te).bind fun as e => f e as) := p
  cases q : m env te with
  | ok as e => rw [q] at p; intro vs H2 hl R2; exact o σ e ts te H2 Q vs as hl R2 p
  | ex x e2 => rw [q] at p; exact p
  | bad => rw [q] at p; exact p
/-! ### flat answers -/
def OpS (K : KW) (r : R2) (f : Dt → Dt → Option Dt) : Prop := ∀ H x y dx dy z Q, Dn K H x dx → Dn K H y dy → f dx dy = some z → flatD z = true ∧ (Q (vOf z) H → r x y H Q)
def UnS (K : KW) (r : V → Hp → VK → Prop) (f : Dt → Option Dt) : Prop := ∀ H x dx z Q, Dn K H x dx → f dx = some z → flatD z = true ∧ (Q (vOf z) H → r x H Q)
theorem so2_fl {r : R2} {g : Dt → Dt → Option Dt} (o : OpS K r g) : SO2 K B W r (fl2 g) := by
  intro σ env ts te H Q v u a b R p
  obtain ⟨F, O, R⟩ := R
  unfold fl2 at p
  cases e1 : a.val env with
  | none => rw [e1] at p; exact p.elim
  | some x =>
    cases e2 : b.val env with
    | none => rw [e1, e2] at p; exact p.elim
    | some y =>
      rw [e1, e2] at p
      cases e3 : g x y with
      | none => simp only [e3] at p; exact p.elim
      | some z =>
        simp only [e3] at p
        obtain ⟨hf, hr⟩ := o H v u x y z Q (cell_val R R.tm.2.1 e1) (cell_val R R.tm.1 e2) e3
        exact hr (p _ H (R.pop.pop.pushD (dn_flat hf)))
theorem so1_fl {r : V → Hp → VK → Prop} {g : Dt → Option Dt} (o : UnS K r g) : SO1 K B W r (fl1 g) := by
  intro σ env ts te H Q v a R p
  obtain ⟨F, O, R⟩ := R
  unfold fl1 at p
  cases e1 : a.val env with
  | none => rw [e1] at p; exact p.elim
  | some x =>
    rw [e1] at p
    cases e3 : g x with
    | none => simp only [e3] at p; exact p.elim
    | some z =>
      simp only [e3] at p
      obtain ⟨hf, hr⟩ := o H v x z Q (cell_val R R.tm.1 e1) e3
      exact hr (p _ H (R.pop.pushD (dn_flat hf)))
/-! ### tests -/
def tstA (a : A) (e : Env) : Rs Bool := match a with
  | .d (.bool b) => .ok b e
  | _ => .bad
def mTst (m : ME) : MT := fun env te => (m env te).bind tstA
def mAnd (a b : MT) : MT := fun env te => (a env te).bind fun c e => if c = true then b e te else .ok false e
def mOr (a b : MT) : MT := fun env te => (a env te).bind fun c e => if c = true then .ok true e else b e te
def mNot (a : MT) : MT := fun env te => (a env te).bind fun c e => .ok (!c) e
def mYes : MT := fun env _ => .ok true env
theorem tst_aux {σ : L2.St} {ts : List V} {te : List A} {H : Hp} {Q : Bool → Hp → Prop} {v : V} {a : A} {e : Env} (R : Rel K B σ e (v :: ts) (a :: te) H)
    (p : PT' K B W σ ts te Q (tstA a e)) : ∃ b, v = .bl b ∧ Q b H := by
  obtain ⟨F, O, R⟩ := R
  cases a with
  | d x =>
    cases x with
    | bool b =>
      have c : Dn K F v (.bool b) := R.tm.1
      cases c
      exact ⟨b, rfl, p H R.pop.rel⟩
    | _ => exact p.elim
  | _ => exact p.elim
theorem st_B {t : TE} {m : ME} (h : SE K B W t m) : ST K B W (tB t) (mTst m) := by
  intro σ env ts te H Q R p
  exact h.thT R p (fun a e p v H' R' => tst_aux R' p)
theorem st_Test {t : TE} {m : ME} (h : SE K B W t m) : ST K B W (tTest t) (mTst m) := st_B h
theorem st_and {t u : TT} {m n : MT} (h1 : ST K B W t m) (h2 : ST K B W u n) : ST K B W (tAnd t u) (mAnd m n) := by
  intro σ env ts te H Q R p
  refine h1.thT R p (fun b e p H' R' => ?_)
  cases b with
  | true => rw [if_pos rfl]; exact h2 σ e ts te H' Q R' p
  | false => rw [if_neg Bool.false_ne_true]; exact p H' R'
theorem st_or {t u : TT} {m n : MT} (h1 : ST K B W t m) (h2 : ST K B W u n) : ST K B W (tOr t u) (mOr m n) := by
  intro σ env ts te H Q R p
  refine h1.thT R p (fun b e p H' R' => ?_)
  cases b with
  | true => rw [if_pos rfl]; exact p H' R'
  | false => rw [if_neg Bool.false_ne_true]; exact h2 σ e ts te H' Q R' p
theorem st_not {t : TT} {m : MT} (h1 : ST K B W t m) : ST K B W (tNot t) (mNot m) := by
  intro σ env ts te H Q R p
  exact h1.thT R p (fun b e p H' R' => p H' R')
theorem st_yes : ST K B W tYes mYes := fun σ env ts te H Q R p => p H R
/-- conditional, and, or, not as values -/
def mIfE (c : MT) (a b : ME) : ME := fun env te => (c env te).bind fun x e => if x = true then a e te else b e te
theorem se_if {t : TT} {ta tb : TE} {m : MT} {ma mb : ME} (h : ST K B W t m) (ha : SE K B W ta ma) (hb : SE K B W tb mb) : SE K B W (tIf t ta tb) (mIfE m ma mb) := by
  intro σ env ts te H Q R p
  refine h.thE R p (fun b e p H' R' => ?_)
  cases b with
  | true => rw [if_pos rfl]; exact ha σ e ts te H' Q R' p
  | false => rw [if_neg Bool.false_ne_true]; exact hb σ e ts te H' Q R' p
theorem Rel.pushF {σ : L2.St} {env : Env} {ts : List V} {te : List A} {H : Hp} (R : Rel K B σ env ts te H) {z : Dt} (h : flatD z = true) : Rel K B σ env (vOf z :: ts) (.d z :: te) H := by
  obtain ⟨F, O, R⟩ := R
  exact R.pushD (dn_flat h)
def mAndE (a b : ME) : ME := fun env te => (mTst a env te).bind fun c e => if c = true then b e te else .ok (.d (.bool false)) e
def mOrE (a b : ME) : ME := fun env te => (mTst a env te).bind fun c e => if c = true then .ok (.d (.bool true)) e else b e te
def mNotE (a : ME) : ME := fun env te => (mTst a env te).bind fun c e => .ok (.d (.bool (!c))) e
theorem se_and {ta tb : TE} {ma mb : ME} (ha : SE K B W ta ma) (hb : SE K B W tb mb) : SE K B W (tAndV ta tb) (mAndE ma mb) := by
  intro σ env ts te H Q R p
  refine ST.thE (st_B ha) R p (fun b e p H' R' => ?_)
  cases b with
  | true => rw [if_pos rfl]; exact hb σ e ts te H' Q R' p
  | false => rw [if_neg Bool.false_ne_true]; exact p _ H' (R'.pushF (z := .bool false) rfl)
theorem se_or {ta tb : TE} {ma mb : ME} (ha : SE K B W ta ma) (hb : SE K B W tb mb) : SE K B W (tOrV ta tb) (mOrE ma mb) := by
  intro σ env ts te H Q R p
  refine ST.thE (st_B ha) (Q := fun c H1 => if c = true then Q (.bl true) H1 else tb σ H1 Q) R p (fun b e p H' R' => ?_)
  cases b with
  | true => rw [if_pos rfl]; exact p _ H' (R'.pushF (z := .bool true) rfl)
  | false => rw [if_neg Bool.false_ne_true]; exact hb σ e ts te H' Q R' p
end
end Tw

namespace Tw
open PySem PySem.Spec PyProof.Rows L2
/-! ### statements -/
def Rs.fl {α : Type} (r : Rs α) (f : α → Env → Fl) : Fl := match r with
  | .ok a e => f a e
  | .ex x e => .ex x e
  | .bad => .bad
@[simp] theorem Rs.fl_ok {α : Type} (a : α) (e : Env) (f : α → Env → Fl) : (Rs.ok a e).fl f = f a e := rfl
@[simp] theorem Rs.fl_ex {α : Type} (x : Xc) (e : Env) (f : α → Env → Fl) : (Rs.ex x e : Rs α).fl f = .ex x e := rfl
@[simp] theorem Rs.fl_bad {α : Type} (f : α → Env → Fl) : (Rs.bad : Rs α).fl f = .bad := rfl
def Fl.th (r : Fl) (f : Env → Fl) : Fl := match r with
  | .nx e => f e
  | r => r
@[simp] theorem Fl.th_nx (e : Env) (f : Env → Fl) : (Fl.nx e).th f = f e := rfl
@[simp] theorem Fl.th_rt (a : A) (e : Env) (f : Env → Fl) : (Fl.rt a e).th f = .rt a e := rfl
@[simp] theorem Fl.th_bk (e : Env) (f : Env → Fl) : (Fl.bk e).th f = .bk e := rfl
@[simp] theorem Fl.th_ct (e : Env) (f : Env → Fl) : (Fl.ct e).th f = .ct e := rfl
@[simp] theorem Fl.th_ex (x : Xc) (e : Env) (f : Env → Fl) : (Fl.ex x e).th f = .ex x e := rfl
@[simp] theorem Fl.th_bad (f : Env → Fl) : (Fl.bad).th f = .bad := rfl
/-- a slot that may be set -/
def setOk (i : Nat) (a : A) (env : Env) (te : List A) : Bool := decide (i < env.length) && (match env[i]? with
  | some (some (.io _)) => false
  | _ => true) && !anyC (isRf i) env (a :: te) && !isIo a
abbrev MG := A → Env → List A → Option Env
def gN (i : Nat) : MG := fun a env te => if setOk i a env te = true then some (env.set i (some a)) else none
def gTs : List Nat → List Dt → Env → List A → Option Env
  | [], [], env, _ => some env
  | i :: is, x :: xs, env, te => (gN i (.d x) env te).bind fun e => gTs is xs e te
  | _, _, _, _ => none
def gT (is : List Nat) : MG := fun a env te => match a.tup? with
  | some xs => gTs is xs env te
  | none => none
def mAsg (m : ME) (g : MG) : MS := fun env te => (m env te).fl fun a e => match g a e te with
  | some e' => .nx e'
  | none => .bad
def mDrop (m : ME) : MS := fun env te => (m env te).fl fun _ e => .nx e
def mSeq (m n : MS) : MS := fun env te => (m env te).th fun e => n e te
def mIfS (c : MT) (a b : MS) : MS := fun env te => (c env te).fl fun x e => if x = true then a e te else b e te
def mRet (m : ME) : MS := fun env te => (m env te).fl fun a e => .rt a e
def mRetN : MS := fun env _ => .rt (.d .none) env
def mNext : MS := fun env _ => .nx env
def mBrk : MS := fun env _ => .bk env
def mCt : MS := fun env _ => .ct env
def mNever : MS := fun _ _ => .bad
section
variable {K : KW} {B : Bs} {W : WX}
theorem SE.thS {t : TE} {m : ME} (h : SE K B W t m) {σ : L2.St} {env : Env} {ts : List V} {te : List A} {H : Hp} {Q : VK} {D : Ends} (R : Rel K B σ env ts te H) {f : A → Env → Fl} (p : PS' K B W ts te D ((m env te).fl f))
    (hok : ∀ a e, PS' K B W ts te D (f a e) → ∀ v H', Rel K B σ e (v :: ts) (a :: te) H' → Q v H') : t σ H Q := by
  refine h σ env ts te H Q R ?_
  cases e : m env te with
  | ok a e' => rw [e] at p; exact hok a e' p
  | ex x e' => rw [e] at p; exact p σ
  | bad => rw [e] at p; exact p
theorem ST.thS {t : TT} {m : MT} (h : ST K B W t m) {σ : L2.St} {env : Env} {ts : List V} {te : List A} {H : Hp} {Q : Bool → Hp → Prop} {D : Ends} (R : Rel K B σ env ts te H) {f : Bool → Env → Fl} (p : PS' K B W ts te D ((m env te).fl f))
    (hok : ∀ a e, PS' K B W ts te D (f a e) → ∀ H', Rel K B σ e ts te H' → Q a H') : t σ H Q := by
  refine h σ env ts te H Q R ?_
  cases e : m env te with
  | ok a e' => rw [e] at p; exact hok a e' p
  | ex x e' => rw [e] at p; exact p σ
  | bad => rw [e] at p; exact p
def SG (K : KW) (B : Bs) (g : TG) (mg : MG) : Prop := ∀ σ env ts te H v a e Q, Rel K B σ env (v :: ts) (a :: te) H → mg a env te = some e → (∀ σ' H', Rel K B σ' e ts te H' → Q σ' H') → g v σ H Q
theorem rel_set {σ : L2.St} {env : Env} {ts : List V} {te : List A} {H : Hp} {v : V} {a : A} {i : Nat} {e : Env} (R : Rel K B σ env (v :: ts) (a :: te) H) (h : gN i a env te = some e) : Rel K B (σ.set i (some v)) e ts te H := by
  obtain ⟨F, O, R⟩ := R
  unfold gN at h
  split at h
  · rename_i c
    cases h
    unfold setOk at c
    rw [Bool.and_eq_true, Bool.and_eq_true, Bool.and_eq_true] at c
    obtain ⟨⟨⟨c1, c2⟩, c3⟩, c4⟩ := c
    refine ⟨F, _, R.asg (of_decide_eq_true c1) (fun o z => ?_) (by simpa using c3) (by simpa using c4)⟩
    rw [z] at c2
    simp at c2
  · cases h
theorem sg_name (i : Nat) : SG K B (gName i) (gN i) := fun σ env ts te H v a e Q R h q => q _ _ (rel_set R h)
theorem rel_sets : ∀ {is : List Nat} {xs : List Dt} {vs : List V} {σ : L2.St} {env e : Env} {ts : List V} {te : List A} {H F : Hp} {O : Addr → Option Nat}, RelF K B F O σ env ts te H → DnAll K F vs xs → gTs is xs env te = some e →
    vs.length = is.length ∧ Rel K B ((is.zip vs).foldl (fun σ p => σ.set p.1 (some p.2)) σ) e ts te H
  | [], [], _, σ, env, e, ts, te, H, F, O, R, .nil, h => by cases h; exact ⟨rfl, F, O, R⟩
  | i :: is, x :: xs, _, σ, env, e, ts, te, H, F, O, R, .cons d ds, h => by
    unfold gTs at h
    cases q : gN i (.d x) env te with
    | none => rw [q] at h; cases h
    | some e1 =>
      rw [q] at h
      have R0 := R.push (a := .d x) d
      unfold gN at q
      split at q
      · rename_i c
        cases q
        unfold setOk at c
        rw [Bool.and_eq_true, Bool.and_eq_true, Bool.and_eq_true] at c
        obtain ⟨⟨⟨c1, c2⟩, c3⟩, c4⟩ := c
        have R1 := R0.asg (of_decide_eq_true c1) (fun o z => by rw [z] at c2; simp at c2) (by simpa using c3) (by simpa using c4)
        obtain ⟨l, R2⟩ := rel_sets (is := is) R1 ds h
        exact ⟨congrArg (· + 1) l, R2⟩
      · cases q
  | [], _ :: _, _, _, _, _, _, _, _, _, _, _, .cons _ _, h => by cases h
  | _ :: _, [], _, _, _, _, _, _, _, _, _, _, .nil, h => by cases h
/-- the names of a target, one by one -/
def gNames : List Nat → TGs
  | [] => gNil
  | i :: is => gCons (gName i) (gNames is)
theorem g_names : ∀ {is : List Nat} {vs : List V} {σ : L2.St} {H : Hp} {Q : L2.St → Hp → Prop}, vs.length = is.length → Q ((is.zip vs).foldl (fun σ p => σ.set p.1 (some p.2)) σ) H → gNames is vs σ H Q
  | [], [], _, _, _, _, q => ⟨rfl, q⟩
  | i :: is, v :: vs, σ, H, Q, h, q => ⟨v, vs, rfl, g_names (is := is) (Nat.succ.inj h) q⟩
  | [], _ :: _, _, _, _, h, _ => nomatch h
  | _ :: _, [], _, _, _, h, _ => nomatch h
theorem sg_tup (is : List Nat) {n : Nat} (hn : n = is.length) : SG K B (gTup K n (gNames is)) (gT is) := by
  intro σ env ts te H v a e Q R h q
  obtain ⟨F, O, R⟩ := R
  unfold gT at h
  cases c : a.tup? with
  | none => rw [c] at h; cases h
  | some xs =>
    rw [c] at h
    have h : gTs is xs env te = some e := h
    obtain ⟨p, vs, rfl, hT, _, d⟩ := cell_tup R R.tm.1 c
    obtain ⟨l, R'⟩ := rel_sets R.pop d h
    exact ⟨p, vs, rfl, hT, by rw [l, hn], g_names l (q _ _ R')⟩
theorem ss_asg {t : TE} {m : ME} {g : TG} {mg : MG} (h : SE K B W t m) (hg : SG K B g mg) : SS K B W (tAsg t g) (mAsg m mg) := by
  intro σ env ts te H D R p
  refine h.thS R p fun a e p v H' R' => ?_
  cases q : mg a e te with
  | none => simp only [q] at p; exact p.elim
  | some e' => simp only [q] at p; exact hg σ e ts te H' v a e' D.nx R' q p
theorem ss_drop {t : TE} {m : ME} (h : SE K B W t m) : SS K B W (tDrop t) (mDrop m) := by
  intro σ env ts te H D R p
  exact h.thS R p fun a e p v H' R' => p σ H' R'.pop
theorem ss_ret {t : TE} {m : ME} (h : SE K B W t m) : SS K B W (tRet t) (mRet m) := by
  intro σ env ts te H D R p
  exact h.thS R p fun a e p v H' R' => p v σ ts te H' R'
theorem ss_next : SS K B W tNext mNext := fun σ env ts te H D R p => p σ H R
theorem ss_if {c : TT} {t u : TS} {mc : MT} {m n : MS} (hc : ST K B W c mc) (h1 : SS K B W t m) (h2 : SS K B W u n) : SS K B W (tIfS c t u) (mIfS mc m n) := by
  intro σ env ts te H D R p
  refine hc.thS R p fun b e p H' R' => ?_
  cases b with
  | true => rw [if_pos rfl]; exact h1 σ e ts te H' D R' p
  | false => rw [if_neg Bool.false_ne_true]; exact h2 σ e ts te H' D R' p
theorem ss_seq {t u : TS} {m n : MS} (h1 : SS K B W t m) (h2 : SS K B W u n) : SS K B W (tSeq t u) (mSeq m n) := by
  intro σ env ts te H D R p
  refine h1 σ env ts te H _ R ?_
  have p : PS' K B W ts te D ((m env te).th fun e => n e te) := p
  cases q : m env te with
  | nx e => rw [q] at p; exact fun σ' H' R' => h2 σ' e ts te H' D R' p
  | rt a e => rw [q] at p; exact p
  | bk e => rw [q] at p; exact p
  | ct e => rw [q] at p; exact p
  | ex x e => rw [q] at p; exact p
  | bad => rw [q] at p; exact p
/-- more temporaries -/
theorem PS'.push {ts us : List V} {te ue : List A} {D : Ends} (hl : us.length = ue.length) : ∀ {r : Fl}, PS' K B W ts te D r → PS' K B W (us ++ ts) (ue ++ te) D r
  | .nx e, p => fun σ H R => p σ H (R.popN hl)
  | .rt a e, p => p
  | .bk e, p => fun σ H R => p σ H (R.popN hl)
  | .ct e, p => fun σ H R => p σ H (R.popN hl)
  | .ex x e, p => fun σ cls d H zs F O R => by
    obtain ⟨O', R'⟩ := Tw.popN hl R
    exact p σ cls d H zs F O' R'
  | .bad, p => p
/-! ### while -/
def Fl.lp (r : Fl) (f : Env → Fl) : Fl := match r with
  | .nx e => f e
  | .ct e => f e
  | .bk e => .nx e
  | r => r
@[simp] theorem Fl.lp_nx (e : Env) (f : Env → Fl) : (Fl.nx e).lp f = f e := rfl
@[simp] theorem Fl.lp_rt (a : A) (e : Env) (f : Env → Fl) : (Fl.rt a e).lp f = .rt a e := rfl
@[simp] theorem Fl.lp_bk (e : Env) (f : Env → Fl) : (Fl.bk e).lp f = .nx e := rfl
@[simp] theorem Fl.lp_ct (e : Env) (f : Env → Fl) : (Fl.ct e).lp f = f e := rfl
@[simp] theorem Fl.lp_ex (x : Xc) (e : Env) (f : Env → Fl) : (Fl.ex x e).lp f = .ex x e := rfl
@[simp] theorem Fl.lp_bad (f : Env → Fl) : (Fl.bad).lp f = .bad := rfl
def iterW (c : MT) (b : MS) (te : List A) : Nat → Env → Fl
  | 0, _ => .bad
  | n + 1, env => (c env te).fl fun x e => if x = true then (b e te).lp (iterW c b te n) else .nx e
theorem iterW_mono {c : MT} {b : MS} {te : List A} : ∀ {n m : Nat} {env : Env}, n ≤ m → iterW c b te n env ≠ .bad → iterW c b te m env = iterW c b te n env
  | 0, _, _, _, h => absurd rfl h
  | n + 1, 0, _, h, _ => absurd h (Nat.not_succ_le_zero n)
  | n + 1, m + 1, env, hl, h => by
    unfold iterW at h ⊢
    cases q : c env te with
    | ex x e => rfl
    | bad => rfl
    | ok x e =>
      rw [q] at h
      simp only [Rs.fl_ok] at h ⊢
      cases x with
      | false => rfl
      | true =>
        simp only [if_true] at h ⊢
        cases z : b e te with
        | nx e' => rw [z] at h; exact iterW_mono (Nat.le_of_succ_le_succ hl) h
        | ct e' => rw [z] at h; exact iterW_mono (Nat.le_of_succ_le_succ hl) h
        | _ => rfl
open Classical in
noncomputable def mWhile (c : MT) (b : MS) : MS := fun env te => if h : ∃ n, iterW c b te n env ≠ .bad then iterW c b te h.choose env else .bad
theorem mWhile_of {c : MT} {b : MS} {te : List A} {env : Env} (n : Nat) {r : Fl} (h : iterW c b te n env = r) (hr : r ≠ .bad) : mWhile c b env te = r := by
  have ex : ∃ n, iterW c b te n env ≠ .bad := ⟨n, by rw [h]; exact hr⟩
  unfold mWhile
  rw [dif_pos ex]
  rcases Nat.le_total n ex.choose with z | z
  · rw [iterW_mono z (by rw [h]; exact hr), h]
  · rw [← iterW_mono z ex.choose_spec, h]
theorem mWhile_eq {c : MT} {b : MS} {te : List A} {env : Env} : mWhile c b env te = (c env te).fl fun x e => if x = true then (b e te).lp (fun e' => mWhile c b e' te) else .nx e := by
  have key : ∀ r, r ≠ .bad → (mWhile c b env te = r ↔ ((c env te).fl fun x e => if x = true then (b e te).lp (fun e' => mWhile c b e' te) else .nx e) = r) := by
    intro r hr
    have w1 : ∀ e', mWhile c b e' te = r → ∃ n, iterW c b te n e' = r := fun e' h => by
      unfold mWhile at h
      split at h
      · exact ⟨_, h⟩
      · exact absurd h.symm hr
    constructor
    · intro h
      obtain ⟨n, h⟩ := w1 env h
      cases n with
      | zero => exact absurd h.symm hr
      | succ n =>
        unfold iterW at h
        cases q : c env te with
        | ex x e => rw [q] at h; exact h
        | bad => rw [q] at h; exact h
        | ok x e =>
          rw [q] at h
          cases x with
          | false => exact h
          | true =>
            simp only [Rs.fl_ok, if_true] at h ⊢
            cases z : b e te with
            | nx e' => rw [z] at h; exact mWhile_of n h hr
            | ct e' => rw [z] at h; exact mWhile_of n h hr
            | rt _ _ => rw [z] at h; exact h
            | bk _ => rw [z] at h; exact h
            | ex _ _ => rw [z] at h; exact h
            | bad => rw [z] at h; exact h
    · intro h
      cases q : c env te with
      | ex x e => rw [q] at h; exact mWhile_of 1 (by unfold iterW; rw [q]; exact h) hr
      | bad => rw [q] at h; exact absurd h.symm hr
      | ok x e =>
        rw [q] at h
        cases x with
        | false => exact mWhile_of 1 (by unfold iterW; rw [q]; exact h) hr
        | true =>
          simp only [Rs.fl_ok, if_true] at h
          cases z : b e te with
          | nx e' =>
            rw [z] at h
            obtain ⟨n, h⟩ := w1 e' h
            exact mWhile_of (n + 1) (by unfold iterW; rw [q]; simp only [Rs.fl_ok, if_true]; rw [z]; exact h) hr
          | ct e' =>
            rw [z] at h
            obtain ⟨n, h⟩ := w1 e' h
            exact mWhile_of (n + 1) (by unfold iterW; rw [q]; simp only [Rs.fl_ok, if_true]; rw [z]; exact h) hr
          | rt _ _ => rw [z] at h; exact mWhile_of 1 (by unfold iterW; rw [q]; simp only [Rs.fl_ok, if_true]; rw [z]; exact h) hr
          | bk _ => rw [z] at h; exact mWhile_of 1 (by unfold iterW; rw [q]; simp only [Rs.fl_ok, if_true]; rw [z]; exact h) hr
          | ex _ _ => rw [z] at h; exact mWhile_of 1 (by unfold iterW; rw [q]; simp only [Rs.fl_ok, if_true]; rw [z]; exact h) hr
          | bad => rw [z] at h; exact absurd h.symm hr
  by_cases c1 : mWhile c b env te = .bad
  · rw [c1]
    refine (Classical.byContradiction fun z => ?_)
    have := (key _ (fun y => z y.symm)).mpr rfl
    exact z (c1.symm.trans this)
  · exact ((key _ c1).mp rfl).symm
theorem ss_while {c : TT} {t : TS} {mc : MT} {m : MS} (hc : ST K B W c mc) (h : SS K B W t m) : SS K B W (tWhile c t) (mWhile mc m) := by
  intro σ env ts te H D R p
  have ex : ∃ n, PS' K B W ts te D (iterW mc m te n env) := by
    unfold mWhile at p
    split at p
    · exact ⟨_, p⟩
    · exact p.elim
  obtain ⟨n, p⟩ := ex
  refine ⟨fun k σ H => ∃ env, Rel K B σ env ts te H ∧ PS' K B W ts te D (iterW mc m te k env), ⟨n, env, R, p⟩, ?_⟩
  rintro k σ1 H1 ⟨env1, R1, p1⟩
  cases k with
  | zero => exact p1.elim
  | succ k =>
    refine hc.thS R1 p1 fun b e p2 H2 R2 => ?_
    cases b with
    | false => rw [if_neg Bool.false_ne_true]; exact p2 σ1 H2 R2
    | true =>
      rw [if_pos rfl]
      refine ⟨fun σ' H' => ∃ env, Rel K B σ' env ts te H' ∧ PS' K B W ts te D (iterW mc m te k env), fun σ' H' z => ⟨k, Nat.lt_succ_self k, z⟩, ?_⟩
      refine h σ1 e ts te H2 _ R2 ?_
      have p3 : PS' K B W ts te D ((m e te).lp (iterW mc m te k)) := p2
      cases z : m e te with
      | nx e' => rw [z] at p3; exact fun σ' H' R' => ⟨e', R', p3⟩
      | ct e' => rw [z] at p3; exact fun σ' H' R' => ⟨e', R', p3⟩
      | bk e' => rw [z] at p3; exact p3
      | rt a e' => rw [z] at p3; exact p3
      | ex x e' => rw [z] at p3; exact p3
      | bad => rw [z] at p3; exact p3
end
end Tw

namespace Tw
open PySem PySem.Spec PyProof.Rows L2
/-! ### more on the relation -/
section
variable {K : KW} {B : Bs} {F F' H H' : Hp} {O O' : Addr → Option Nat} {σ σ' : List (Option V)} {env : Env} {ts : List V} {te : List A}
/-- more slots known -/
theorem RelF.sig (R : RelF K B F O σ env ts te H) (hl : σ'.length = σ.length) (h : ∀ (i : Nat) (w : V), σ[i]? = some (some w) → σ'[i]? = some (some w)) : RelF K B F O σ' env ts te H where
  ln := hl.trans R.ln
  sl := fun i a e => by
    obtain ⟨v, e1, c⟩ := R.sl i a e
    exact ⟨v, h i v e1, c.mono (Same.refl F) (fun _ z => ⟨z, rfl⟩) (fun _ _ => rfl) (fun i p w _ z => h i w z) (fun _ _ _ _ z => ⟨z, rfl⟩)⟩
  tm := R.tm.mono (Same.refl F) hl (fun _ _ _ _ z => ⟨z, rfl⟩) (fun i p w _ z => h i w z) (fun _ _ _ _ z => ⟨z, rfl⟩)
  sf := R.sf
  of := fun a j z => by rw [hl]; exact R.of a j z
  b1 := R.b1
  b2 := R.b2
  b3 := R.b3
  b5 := R.b5
  bi := R.bi
  tb := R.tb
/-- a slot forgotten -/
theorem RelF.clr (R : RelF K B F O σ env ts te H) {i : Nat} (nio : ∀ o, env[i]? ≠ some (some (.io o))) (nn : anyC (isRf i) env te = false) : RelF K B F O (σ.set i none) (env.set i none) ts te H := by
  have st : ∀ j w, j ≠ i → σ[j]? = some (some w) → (σ.set i none)[j]? = some (some w) := fun j w nj e => by rw [List.getElem?_set, if_neg (Ne.symm nj)]; exact e
  have ri : ∀ c, isRf i c = false → ∀ i' p, c = .rf i' p → i' ≠ i := fun c hc i' p e z => by
    rw [e, z] at hc
    simp [isRf] at hc
  refine ⟨by rw [List.length_set, List.length_set]; exact R.ln, fun j c e => ?_, ?_, R.sf, fun b j z => by rw [List.length_set]; exact R.of b j z, R.b1, R.b2, R.b3, R.b5, fun j hj => ?_, R.tb⟩
  · rw [List.getElem?_set] at e
    by_cases ji : i = j
    · subst ji
      rw [if_pos rfl] at e
      split at e <;> cases e
    · rw [if_neg ji] at e
      obtain ⟨u, e1, h⟩ := R.sl j c e
      exact ⟨u, st j u (Ne.symm ji) e1, h.mono (Same.refl F) (fun _ z => ⟨z, rfl⟩) (fun _ _ => rfl) (fun i' p w e' z => st i' w (ri c (anyC_env nn e) i' p e') z) (fun _ _ _ _ z => ⟨z, rfl⟩)⟩
  · exact R.tm.mono (Same.refl F) (List.length_set ..) (fun _ _ _ _ z => ⟨z, rfl⟩) (fun i' p w hm z => st i' w (ri _ (anyC_te nn hm) i' p rfl) z) (fun _ _ _ _ z => ⟨z, rfl⟩)
  · obtain ⟨o, ho⟩ := R.bi j hj
    exact ⟨o, by rw [List.getElem?_set, if_neg (fun z => nio o (by rw [z]; exact ho))]; exact ho⟩
/-- a thing of one's own that is handed up -/
theorem RelF.pushOwn (R : RelF K B F O σ env ts te H) (P : Addr → Prop) [DecidablePred P] (hP : ∀ a, P a → O a = none ∧ F a = none ∧ MutO (H a) ∧ B.H a = none) {v : V} {o : Ow} (h : OwO K F H P v o) :
    RelF K B F (fun a => if P a then some (σ.length + ts.length) else O a) σ env (v :: ts) (.own o :: te) H := by
  have k : ∀ j b, O b = some j → (fun a => if P a then some (σ.length + ts.length) else O a) b = some j ∧ H b = H b := fun j b z => ⟨(if_neg (fun p => by rw [(hP b p).1] at z; cases z)).trans z, rfl⟩
  refine ⟨R.ln, fun i a e => ?_, ⟨OwO.mono (own := P) (Same.refl F) (fun a p => ⟨if_pos p, (hP a p).2.2.2⟩) (fun _ _ => rfl) h, R.tm.mono (Same.refl F) rfl (fun j _ _ b z => k j b z) (fun _ _ _ _ z => z) (fun i _ _ b z => k i b z)⟩, R.sf, fun b j z => ?_, R.b1, R.b2, R.b3, R.b5, R.bi, R.tb⟩
  · obtain ⟨v, e1, c⟩ := R.sl i a e
    exact ⟨v, e1, c.mono (Same.refl F) (k i) (fun _ _ => rfl) (fun _ _ _ _ z => z) (fun i' _ _ b z => k i' b z)⟩
  · by_cases p : P b
    · have z' : some (σ.length + ts.length) = some j := (if_pos p).symm.trans z
      obtain ⟨_, h2, h3, h4⟩ := hP b p
      exact ⟨h2, h3, by rw [← Option.some.inj z', List.length_cons]; omega, .inl h4⟩
    · have z' : O b = some j := (if_neg p).symm.trans z
      obtain ⟨h1, h2, h3, h4⟩ := R.of b j z'
      exact ⟨h1, h2, by rw [List.length_cons]; omega, h4⟩
/-- what the top owns is changed -/
theorem RelF.mutT {v : V} {o o' : Ow} (R : RelF K B F O σ env (v :: ts) (.own o :: te) H) (hH : ∀ b, O b ≠ some (σ.length + ts.length) → H' b = H b) (hn : ∀ b, O b = some (σ.length + ts.length) → MutO (H' b))
    (new : OwO K F H' (fun a => O a = some (σ.length + ts.length) ∧ B.H a = none) v o') : RelF K B F O σ env (v :: ts) (.own o' :: te) H' := by
  have ln := R.ln
  have kb : ∀ j, j ≠ σ.length + ts.length → ∀ b, O b = some j → O b = some j ∧ H' b = H b := fun j nj b z => ⟨z, hH b (by rw [z]; exact fun y => nj (Option.some.inj y))⟩
  have rf : ∀ j w, σ[j]? = some (some w) → j ≠ σ.length + ts.length := fun j w e => by have := (List.getElem?_eq_some_iff.mp e).1; omega
  have cm : ∀ {j : Nat} {u : V} {c : A}, CellO K B F H O σ j u c → j ≠ σ.length + ts.length → CellO K B F H' O σ j u c := fun {j u c} h nj => by
    refine h.mono (Same.refl F) (kb j nj) (fun _ _ => rfl) (fun _ _ _ _ z => z) (fun i k e b z => ?_)
    rw [e] at h
    obtain ⟨w, hw, _⟩ := h
    exact kb i (rf i w hw) b z
  have tm : ∀ {us : List V} {ue : List A}, us.length ≤ ts.length → TmO K B F H O σ us ue → TmO K B F H' O σ us ue := fun {us} => by
    induction us with
    | nil => intro ue _ h; cases ue with
      | nil => trivial
      | cons => exact h.elim
    | cons u us ih =>
      intro ue hl h
      cases ue with
      | nil => exact h.elim
      | cons x ue =>
        rw [List.length_cons] at hl
        exact ⟨cm h.1 (by omega), ih (by omega) h.2⟩
  refine ⟨ln, fun j c e => ?_, ⟨new, tm (Nat.le_refl _) R.tm.2⟩, fun b u e => ?_, fun b j z => ?_, R.b1, fun b u hs ht e => ?_, R.b3, fun b e => ?_, R.bi, R.tb.1, R.tb.2.mono fun b o t z => by rw [hH b (by rw [R.noT t z]; exact nofun)]; exact z⟩
  · obtain ⟨u, e1, h⟩ := R.sl j c e
    exact ⟨u, e1, cm h (rf j u e1)⟩
  · by_cases hb : O b = some (σ.length + ts.length)
    · rw [(R.of b _ hb).1] at e
      cases e
    · rw [hH b hb]
      exact R.sf b u e
  · obtain ⟨h1, h2, h3, h4⟩ := R.of b j z
    refine ⟨h1, ?_, h3, h4⟩
    by_cases hb : O b = some (σ.length + ts.length)
    · exact hn b hb
    · rw [hH b hb]; exact h2
  · by_cases hb : O b = some (σ.length + ts.length)
    · rcases (R.of b _ hb).2.2.2 with y | y
      · rw [y] at e; cases e
      · rw [y.1] at hs; cases hs
    · rw [hH b hb]
      exact R.b2 b u hs ht e
  · by_cases hb : O b = some (σ.length + ts.length)
    · exact (hn b hb).1
    · rw [hH b hb]
      exact R.b5 b e
end
section
variable {K : KW} {B : Bs} {F H : Hp} {O : Addr → Option Nat} {σ : List (Option V)} {env : Env} {ts : List V} {te : List A}
/-- what lies under the top is dropped -/
theorem RelF.mid {v u : V} {a b : A} (R : RelF K B F O σ env (v :: u :: ts) (a :: b :: te) H) (na : isIo a = false) : RelF K B F (fun c => if O c = some (σ.length + ts.length + 1) then some (σ.length + ts.length) else if O c = some (σ.length + ts.length) then none else O c) σ env (v :: ts) (a :: te) H := by
  have ln := R.ln
  have k1 : ∀ j, j < σ.length + ts.length → ∀ b, O b = some j → (fun c => if O c = some (σ.length + ts.length + 1) then some (σ.length + ts.length) else if O c = some (σ.length + ts.length) then none else O c) b = some j ∧ H b = H b := fun j hj b z =>
    ⟨(if_neg (by rw [z]; exact fun y => by have := Option.some.inj y; omega)).trans ((if_neg (by rw [z]; exact fun y => by have := Option.some.inj y; omega)).trans z), rfl⟩
  have k2 : ∀ b, O b = some (σ.length + ts.length + 1) → (fun c => if O c = some (σ.length + ts.length + 1) then some (σ.length + ts.length) else if O c = some (σ.length + ts.length) then none else O c) b = some (σ.length + ts.length) ∧ H b = H b := fun b z => ⟨if_pos z, rfl⟩
  have rf : ∀ j w, σ[j]? = some (some w) → j < σ.length + ts.length := fun j w e => by have := (List.getElem?_eq_some_iff.mp e).1; omega
  have nest : ∀ {j : Nat} {u : V} {c : A}, CellO K B F H O σ j u c → ∀ i k, c = .rf i (some k) → ∀ b, O b = some i → (fun c => if O c = some (σ.length + ts.length + 1) then some (σ.length + ts.length) else if O c = some (σ.length + ts.length) then none else O c) b = some i ∧ H b = H b := fun {j u c} h i k e b z => by
    rw [e] at h
    obtain ⟨w, hw, _⟩ := h
    exact k1 i (rf i w hw) b z
  have cm : ∀ {j : Nat} {u : V} {c : A}, CellO K B F H O σ j u c → j < σ.length + ts.length → CellO K B F H (fun c => if O c = some (σ.length + ts.length + 1) then some (σ.length + ts.length) else if O c = some (σ.length + ts.length) then none else O c) σ j u c := fun {j u c} h nj =>
    h.mono (Same.refl F) (k1 j nj) (fun _ _ => rfl) (fun _ _ _ _ z => z) (nest h)
  have tm : ∀ {us : List V} {ue : List A}, us.length ≤ ts.length → TmO K B F H O σ us ue → TmO K B F H (fun c => if O c = some (σ.length + ts.length + 1) then some (σ.length + ts.length) else if O c = some (σ.length + ts.length) then none else O c) σ us ue := fun {us} => by
    induction us with
    | nil => intro ue _ h; cases ue with
      | nil => trivial
      | cons => exact h.elim
    | cons u us ih =>
      intro ue hl h
      cases ue with
      | nil => exact h.elim
      | cons x ue =>
        rw [List.length_cons] at hl
        exact ⟨cm h.1 (by omega), ih (by omega) h.2⟩
  refine ⟨ln, fun j c e => ?_, ⟨?_, tm (Nat.le_refl _) R.tm.2.2⟩, R.sf, fun b j z => ?_, R.b1, R.b2, R.b3, R.b5, R.bi, R.tb⟩
  · obtain ⟨u, e1, h⟩ := R.sl j c e
    exact ⟨u, e1, cm h (rf j u e1)⟩
  · have h := R.tm.1
    refine h.mono (Same.refl F) (fun b z => k2 b (by rw [List.length_cons] at z; exact z)) (fun o eo => ?_) (fun _ _ _ _ z => z) (nest h)
    rw [eo] at na
    simp [isIo] at na
  · by_cases h1 : O b = some (σ.length + ts.length + 1)
    · have z' : some (σ.length + ts.length) = some j := (if_pos h1).symm.trans z
      obtain ⟨q1, q2, q3, q4⟩ := R.of b _ h1
      refine ⟨q1, q2, by rw [← Option.some.inj z', List.length_cons]; omega, .inl ?_⟩
      rcases q4 with q4 | ⟨_, q4⟩
      · exact q4
      · obtain ⟨o', ho⟩ := R.bi _ q4
        have := (List.getElem?_eq_some_iff.mp ho).1
        omega
    · have z1 : (if O b = some (σ.length + ts.length) then none else O b) = some j := (if_neg h1).symm.trans z
      by_cases h2 : O b = some (σ.length + ts.length)
      · rw [if_pos h2] at z1
        cases z1
      · rw [if_neg h2] at z1
        obtain ⟨q1, q2, q3, q4⟩ := R.of b j z1
        refine ⟨q1, q2, ?_, q4⟩
        rw [List.length_cons, List.length_cons] at q3
        rw [List.length_cons]
        have : j ≠ σ.length + ts.length + 1 := fun y => h1 (by rw [z1, y])
        omega
theorem rel_mid {v : V} {a : A} (na : isIo a = false) : ∀ {us : List V} {ue : List A}, us.length = ue.length → Rel K B σ env (v :: (us ++ ts)) (a :: (ue ++ te)) H → Rel K B σ env (v :: ts) (a :: te) H
  | [], [], _, R => R
  | u :: us, b :: ue, h, R => by
    obtain ⟨F, O, R⟩ := R
    exact rel_mid na (Nat.succ.inj h) ⟨F, _, R.mid na⟩
  | [], _ :: _, h, _ => nomatch h
  | _ :: _, [], h, _ => nomatch h
end
/-! ### what is walked -/
/-- how an item stands: a pair that a walk makes is never kept -/
def kdQ : Dt → A
  | .tuple xs => .q xs
  | x => .d x
abbrev MI := Env → List A → Rs (List A × (Env → Option (List Dt)))
def WDk (K : KW) (B : Bs) (kd : Dt → A) (J : It) (as0 : List A) (vs0 : List V) (rd : Env → Option (List Dt)) : Prop := ∀ i σ env us ue ts te H xs, us.length = ue.length → Rel K B σ env (us ++ (vs0 ++ ts)) (ue ++ (as0 ++ te)) H → rd env = some xs →
  (i = xs.length → J.stop i H) ∧ ∀ x, xs[i]? = some x → J.go i H ∧ ∀ v H', J.yld i H v H' → Rel K B σ env (v :: (us ++ (vs0 ++ ts))) (kd x :: (ue ++ (as0 ++ te))) H'
def PI' (K : KW) (B : Bs) (W : WX) (kd : Dt → A) (σ : L2.St) (ts : List V) (te : List A) (R : It → Hp → Prop) : Rs (List A × (Env → Option (List Dt))) → Prop
  | .ok ar e => ∀ J vs0 H, vs0.length = ar.1.length → Rel K B σ e (vs0 ++ ts) (ar.1 ++ te) H → WDk K B kd J ar.1 vs0 ar.2 → R J H
  | .ex x e => XPost K B W σ ts te x e
  | .bad => False
def SI (K : KW) (B : Bs) (W : WX) (kd : Dt → A) (ti : TI) (mi : MI) : Prop := ∀ σ env ts te H R, Rel K B σ env ts te H → PI' K B W kd σ ts te R (mi env te) → ti σ H R
open Classical in
noncomputable def forM (kd : Dt → A) (rd : Env → Option (List Dt)) (xs0 : List Dt) (te : List A) (g : MG) (body : MS) : List Dt → Env → Fl
  | [], env => if rd env = some xs0 then .nx env else .bad
  | x :: r, env => if rd env = some xs0 then (match g (kd x) env te with
    | some e1 => (body e1 te).lp fun e2 => forM kd rd xs0 te g body r e2
    | none => .bad) else .bad
noncomputable def mFor (kd : Dt → A) (mi : MI) (g : MG) (body : MS) : MS := fun env te => (mi env te).fl fun ar e => match ar.2 e with
  | some xs => forM kd ar.2 xs (ar.1 ++ te) g body xs e
  | none => .bad
section
variable {K : KW} {B : Bs} {W : WX}
theorem ss_for {ti : TI} {mi : MI} {g : TG} {mg : MG} {t : TS} {m : MS} {kd : Dt → A} (hi : SI K B W kd ti mi) (hg : SG K B g mg) (h : SS K B W t m) : SS K B W (tFor ti g t) (mFor kd mi mg m) := by
  intro σ env ts te H D R p
  refine hi σ env ts te H _ R ?_
  have p : PS' K B W ts te D ((mi env te).fl fun ar e => match ar.2 e with | some xs => forM kd ar.2 xs (ar.1 ++ te) mg m xs e | none => .bad) := p
  cases q : mi env te with
  | ex x e => rw [q] at p; exact p σ
  | bad => rw [q] at p; exact p
  | ok ar e =>
    obtain ⟨as0, rd⟩ := ar
    rw [q] at p
    simp only [Rs.fl_ok] at p
    intro J vs0 H1 hl R1 wd
    cases q2 : rd e with
    | none => simp only [q2] at p; exact False.elim p
    | some xs =>
      simp only [q2] at p
      have p := PS'.push (us := vs0) (ue := as0) hl p
      refine ⟨fun i k σ H => ∃ env, Rel K B σ env (vs0 ++ ts) (as0 ++ te) H ∧ i ≤ xs.length ∧ k = xs.length - i ∧ PS' K B W (vs0 ++ ts) (as0 ++ te) D (forM kd rd xs (as0 ++ te) mg m (xs.drop i) env), ⟨_, e, R1, Nat.zero_le _, rfl, p⟩, ?_⟩
      rintro i k σ2 H2 ⟨env2, R2, li, rfl, p2⟩
      by_cases il : i < xs.length
      · rw [List.drop_eq_getElem_cons il] at p2
        unfold forM at p2
        split at p2
        · rename_i hrd
          obtain ⟨go, yl⟩ := (wd i σ2 env2 [] [] ts te H2 xs rfl R2 hrd).2 xs[i] (List.getElem?_eq_getElem il)
          refine .inr ⟨go, fun σ H => ∃ env, Rel K B σ env (vs0 ++ ts) (as0 ++ te) H ∧ PS' K B W (vs0 ++ ts) (as0 ++ te) D (forM kd rd xs (as0 ++ te) mg m (xs.drop (i + 1)) env), fun σ' H' ⟨env', R', p'⟩ => ⟨_, by omega, env', R', il, rfl, p'⟩, fun x H' hy => ?_⟩
          have R3 := yl x H' hy
          cases q3 : mg (kd xs[i]) env2 (as0 ++ te) with
          | none => simp only [q3] at p2; exact False.elim p2
          | some e1 =>
            simp only [q3] at p2
            refine hg σ2 env2 (vs0 ++ ts) (as0 ++ te) H' x _ e1 _ R3 q3 fun σ4 H4 R4 => ?_
            refine h σ4 e1 (vs0 ++ ts) (as0 ++ te) H4 _ R4 ?_
            cases z : m e1 (as0 ++ te) with
            | nx e' => rw [z] at p2; exact fun σ' H' R' => ⟨e', R', p2⟩
            | ct e' => rw [z] at p2; exact fun σ' H' R' => ⟨e', R', p2⟩
            | bk e' => rw [z] at p2; exact p2
            | rt a e' => rw [z] at p2; exact p2
            | ex x e' => rw [z] at p2; exact p2
            | bad => rw [z] at p2; exact p2
        · exact False.elim p2
      · have e1 : i = xs.length := by omega
        rw [List.drop_of_length_le (by omega)] at p2
        unfold forM at p2
        split at p2
        · rename_i hrd
          exact .inl ⟨(wd i σ2 env2 [] [] ts te H2 xs rfl R2 hrd).1 e1, p2 σ2 H2 R2⟩
        · exact False.elim p2
end
/-! ### comprehensions -/
def wipeE (env : Env) : List Nat → Env
  | [] => env
  | v :: vs => (wipeE env vs).set v none
def wipeOk (env : Env) (te : List A) : List Nat → Bool
  | [] => true
  | v :: vs => wipeOk env te vs && !anyC (isRf v) (wipeE env vs) te && (match (wipeE env vs)[v]? with
    | some (some (.io _)) => false
    | _ => true)
/-- nothing is raised -/
def Rs.noX {α : Type} (r : Rs α) : Rs α := match r with
  | .ex _ _ => .bad
  | r => r
@[simp] theorem Rs.noX_ok {α : Type} (a : α) (e : Env) : (Rs.ok a e).noX = .ok a e := rfl
@[simp] theorem Rs.noX_bad {α : Type} : (Rs.bad : Rs α).noX = .bad := rfl
open Classical in
noncomputable def lcM (kd : Dt → A) (rd : Env → Option (List Dt)) (xs0 : List Dt) (te : List A) (g : MG) (tt : MT) (el : ME) (vs : List Nat) : List Dt → List Dt → Env → Rs (List Dt)
  | [], acc, env => if rd env = some xs0 then .ok acc env else .bad
  | x :: r, acc, env => if rd env = some xs0 then (match g (kd x) env (.own (.l acc) :: te) with
    | some e1 => (tt e1 (.own (.l acc) :: te)).noX.bind fun b e2 => if b = true then (el e2 (.own (.l acc) :: te)).noX.bind fun a e3 => (match a with
        | .d y => if acc.length < sizeLine ∧ wipeOk e3 (.own (.l (acc ++ [y])) :: te) vs = true then lcM kd rd xs0 te g tt el vs r (acc ++ [y]) (wipeE e3 vs) else .bad
        | _ => .bad)
      else if wipeOk e2 (.own (.l acc) :: te) vs = true then lcM kd rd xs0 te g tt el vs r acc (wipeE e2 vs) else .bad
    | none => .bad) else .bad
noncomputable def mLc (kd : Dt → A) (mi : MI) (g : MG) (tt : MT) (el : ME) (vs : List Nat) : ME := fun env te => (mi env te).bind fun ar e => match ar.2 (wipeE e vs) with
  | some xs => if wipeOk e (.own (.l []) :: (ar.1 ++ te)) vs = true then (lcM kd ar.2 xs (ar.1 ++ te) g tt el vs xs [] (wipeE e vs)).bind fun ys e2 => .ok (.own (.l ys)) e2 else .bad
  | none => .bad
section
variable {K : KW} {B : Bs} {W : WX}
theorem rel_wipe {ts : List V} {te : List A} {H : Hp} : ∀ {vs : List Nat} {σ : L2.St} {env : Env}, Rel K B σ env ts te H → wipeOk env te vs = true → Rel K B (wipe σ vs) (wipeE env vs) ts te H
  | [], _, _, R, _ => R
  | v :: vs, σ, env, R, h => by
    unfold wipeOk at h
    rw [Bool.and_eq_true, Bool.and_eq_true] at h
    obtain ⟨⟨h1, h2⟩, h3⟩ := h
    obtain ⟨F, O, R⟩ := rel_wipe R h1
    refine ⟨F, O, R.clr (fun o z => ?_) (by simpa using h2)⟩
    rw [z] at h3
    simp at h3
theorem rel_unwipe {ts : List V} {te : List A} {H : Hp} {vs : List Nat} {σ : L2.St} {env : Env} (R : Rel K B (wipe σ vs) env ts te H) : Rel K B σ env ts te H := by
  obtain ⟨F, O, R⟩ := R
  exact ⟨F, O, R.sig (wipe_length σ vs).symm fun i w e => (wipe_some e).1⟩
/-- a target within a comprehension -/
def SGw (K : KW) (B : Bs) (vs : List Nat) (g : TG) (mg : MG) : Prop := ∀ σ env ts te H v a e Q, Rel K B σ env (v :: ts) (a :: te) H → mg a env te = some e → (∀ σ' H', wipe σ' vs = wipe σ vs → Rel K B σ' e ts te H' → Q σ' H') → g v σ H Q
theorem wipe_set : ∀ {vs : List Nat} {σ : L2.St} {i : Nat} {x : Option V}, i ∈ vs → wipe (σ.set i x) vs = wipe σ vs
  | v :: vs, σ, i, x, h => by
    unfold wipe
    by_cases hv : i ∈ vs
    · rw [wipe_set hv]
    · have e : i = v := by
        rcases List.mem_cons.mp h with e | e
        · exact e
        · exact absurd e hv
      subst e
      have z : ∀ {vs : List Nat} {σ : L2.St}, (wipe (σ.set i x) vs).set i none = (wipe σ vs).set i none := by
        intro vs
        induction vs with
        | nil => intro σ; unfold wipe; rw [List.set_set]
        | cons u us ih =>
          intro σ
          unfold wipe
          by_cases hu : u = i
          · subst hu
            rw [List.set_set, List.set_set]
            exact ih
          · rw [List.set_comm _ _ hu, List.set_comm _ _ hu, ih]
      exact z
theorem wipe_wipe : ∀ {vs us : List Nat} {σ : L2.St}, (∀ v ∈ us, v ∈ vs) → wipe (wipe σ us) vs = wipe σ vs
  | vs, [], _, _ => rfl
  | vs, u :: us, σ, h => by
    show wipe ((wipe σ us).set u none) vs = _
    rw [wipe_set (h u List.mem_cons_self)]
    exact wipe_wipe fun v hv => h v (List.mem_cons_of_mem _ hv)
theorem sgw_name {vs : List Nat} (i : Nat) (hi : vs.contains i = true) : SGw K B vs (gName i) (gN i) := fun σ env ts te H v a e Q R h q => q _ _ (wipe_set (by simpa using hi)) (rel_set R h)
theorem wipe_sets {vs : List Nat} : ∀ {is : List Nat} {us : List V} {σ : L2.St}, (∀ i ∈ is, i ∈ vs) → wipe ((is.zip us).foldl (fun σ p => σ.set p.1 (some p.2)) σ) vs = wipe σ vs
  | [], _, _, _ => rfl
  | _ :: _, [], _, _ => rfl
  | i :: is, u :: us, σ, h => by
    show wipe ((is.zip us).foldl _ (σ.set i (some u))) vs = _
    rw [wipe_sets (fun j hj => h j (List.mem_cons_of_mem _ hj)), wipe_set (h i List.mem_cons_self)]
theorem sgw_tup {vs : List Nat} (is : List Nat) {n : Nat} (hn : n = is.length) (hi : is.all vs.contains = true) : SGw K B vs (gTup K n (gNames is)) (gT is) := by
  intro σ env ts te H v a e Q R h q
  obtain ⟨F, O, R⟩ := R
  unfold gT at h
  cases c : a.tup? with
  | none => rw [c] at h; cases h
  | some xs =>
    rw [c] at h
    have h : gTs is xs env te = some e := h
    obtain ⟨p, us, rfl, hT, _, d⟩ := cell_tup R R.tm.1 c
    obtain ⟨l, R'⟩ := rel_sets R.pop d h
    exact ⟨p, us, rfl, hT, by rw [l, hn], g_names l (q _ _ (wipe_sets fun i hm => by simpa using List.all_eq_true.mp hi i hm) R')⟩
theorem rel_app {σ : L2.St} {env : Env} {ts : List V} {te : List A} {H : Hp} {D : Addr} {acc : List Dt} {y : V} {x : Dt} (R : Rel K B σ env (y :: .ref D :: ts) (.d x :: .own (.l acc) :: te) H) :
    ∃ us, H D = some (.lst us) ∧ us.length = acc.length ∧ Rel K B σ env (.ref D :: ts) (.own (.l (acc ++ [x])) :: te) (upd H D (.lst (us ++ [y]))) := by
  obtain ⟨F, O, R⟩ := R
  have hy : Dn K F y x := R.tm.1
  have R1 := R.pop
  obtain ⟨a, us, e, o, h1, d⟩ := R1.tm.1
  cases e
  refine ⟨us, h1, d.length, F, _, R1.mutT (o' := .l (acc ++ [x])) (fun b nb => upd_ne (fun z => nb (by rw [z]; exact o.1))) (fun b hb => ?_) ⟨D, us ++ [y], rfl, o, upd_same, d.app (.cons hy .nil)⟩⟩
  by_cases hb2 : b = D
  · rw [hb2, upd_same]; exact mutO_lst _
  · rw [upd_ne hb2]; exact (R1.of b _ hb).2.1
/-- nothing may be raised -/
def W0 : WX := fun _ _ _ _ => False
theorem se_lc {ti : TI} {mi : MI} {g : TG} {mg : MG} {tt : TT} {mt : MT} {t : TE} {m : ME} {vs : List Nat} {kd : Dt → A} (hi : SI K B W kd ti mi) (hg : SGw K B vs g mg) (ht : ST K B W0 tt mt) (h : SE K B W0 t m) : SE K B W (tLc ti g tt t vs) (mLc kd mi mg mt m vs) := by
  intro σ env ts te H Q R p
  refine hi σ env ts te H _ R ?_
  have p : PE' K B W σ ts te Q ((mi env te).bind fun ar e => match ar.2 (wipeE e vs) with
    | some xs => if wipeOk e (.own (.l []) :: (ar.1 ++ te)) vs = true then (lcM kd ar.2 xs (ar.1 ++ te) mg mt m vs xs [] (wipeE e vs)).bind fun ys e2 => .ok (.own (.l ys)) e2 else .bad
    | none => .bad) := p
  cases q : mi env te with
  | ex x e => rw [q] at p; exact p
  | bad => rw [q] at p; exact p
  | ok ar e =>
    obtain ⟨as0, rd⟩ := ar
    rw [q] at p
    simp only [Rs.bind_ok] at p
    intro J vs0 H1 hl R1 wd D nD
    cases q2 : rd (wipeE e vs) with
    | none => simp only [q2] at p; exact False.elim p
    | some xs =>
      simp only [q2] at p
      by_cases wok : wipeOk e (.own (.l []) :: (as0 ++ te)) vs = true
      case neg => rw [if_neg wok] at p; exact False.elim p
      rw [if_pos wok] at p
      obtain ⟨F1, O1, R1⟩ := R1
      have R1' : Rel K B σ e (.ref D :: (vs0 ++ ts)) (.own (.l []) :: (as0 ++ te)) (upd H1 D (.lst [])) := R1.pushL nD .nil
      have R2 := rel_wipe R1' wok
      refine ⟨fun i k H => ∃ env acc, Rel K B (wipe σ vs) env (.ref D :: (vs0 ++ ts)) (.own (.l acc) :: (as0 ++ te)) H ∧ i ≤ xs.length ∧ k = xs.length - i ∧ PE' K B W σ ts te Q ((lcM kd rd xs (as0 ++ te) mg mt m vs (xs.drop i) acc env).bind fun ys e2 => .ok (.own (.l ys)) e2),
        ⟨_, _, _, R2, Nat.zero_le _, rfl, p⟩, ?_⟩
      rintro i k H2 ⟨env2, acc, R2, li, rfl, p2⟩
      by_cases il : i < xs.length
      · rw [List.drop_eq_getElem_cons il] at p2
        unfold lcM at p2
        split at p2
        · rename_i hrd
          obtain ⟨go, yl⟩ := (wd i (wipe σ vs) env2 [.ref D] [.own (.l acc)] ts te H2 xs rfl R2 hrd).2 xs[i] (List.getElem?_eq_getElem il)
          refine .inr ⟨go, fun H => ∃ env acc, Rel K B (wipe σ vs) env (.ref D :: (vs0 ++ ts)) (.own (.l acc) :: (as0 ++ te)) H ∧ PE' K B W σ ts te Q ((lcM kd rd xs (as0 ++ te) mg mt m vs (xs.drop (i + 1)) acc env).bind fun ys e2 => .ok (.own (.l ys)) e2), fun H' ⟨env', acc', R', p'⟩ => ⟨_, by omega, env', acc', R', il, rfl, p'⟩, fun x H' hy => ?_⟩
          -- the item on top of the new list
          have R3 : Rel K B (wipe σ vs) env2 (x :: .ref D :: (vs0 ++ ts)) (kd xs[i] :: .own (.l acc) :: (as0 ++ te)) H' := yl x H' hy
          cases q3 : mg (kd xs[i]) env2 (.own (.l acc) :: (as0 ++ te)) with
          | none => simp only [q3] at p2; exact False.elim p2
          | some e1 =>
            simp only [q3] at p2
            refine hg (wipe σ vs) env2 _ _ H' x _ e1 _ R3 q3 fun σ4 H4 hw R4 => ⟨hw.trans (wipe_wipe fun _ z => z), ?_⟩
            rw [wipe_wipe fun _ z => z] at hw
            refine ht σ4 e1 _ _ H4 _ R4 ?_
            cases z : mt e1 (.own (.l acc) :: (as0 ++ te)) with
            | ex x e' => rw [z] at p2; exact False.elim p2
            | bad => rw [z] at p2; exact False.elim p2
            | ok b e2 =>
              rw [z] at p2
              intro H5 R5
              cases b with
              | false =>
                simp only [Rs.noX_ok, Rs.bind_ok, Bool.false_eq_true, if_false] at p2 ⊢
                split at p2
                · rename_i w2
                  refine ⟨_, acc, ?_, p2⟩
                  rw [← hw]
                  exact rel_wipe R5 w2
                · exact False.elim p2
              | true =>
                simp only [Rs.noX_ok, Rs.bind_ok, if_true] at p2 ⊢
                refine h σ4 e2 _ _ H5 _ R5 ?_
                cases z2 : m e2 (.own (.l acc) :: (as0 ++ te)) with
                | ex x e' => rw [z2] at p2; exact False.elim p2
                | bad => rw [z2] at p2; exact False.elim p2
                | ok a e3 =>
                  rw [z2] at p2
                  intro y H6 R6
                  cases a with
                  | d x0 =>
                    simp only [Rs.noX_ok, Rs.bind_ok] at p2
                    split at p2
                    · rename_i w3
                      obtain ⟨us, e6, l6, R7⟩ := rel_app R6
                      refine ⟨us, e6, by rw [l6]; exact w3.1, _, acc ++ [x0], ?_, p2⟩
                      rw [← hw]
                      exact rel_wipe (te := .own (.l (acc ++ [x0])) :: (as0 ++ te)) R7 w3.2
                    · exact False.elim p2
                  | own _ => exact False.elim p2
                  | io _ => exact False.elim p2
                  | rf _ _ => exact False.elim p2
                  | sc _ => exact False.elim p2
                  | q _ => exact False.elim p2
                  | lk _ => exact False.elim p2
                  | xr _ => exact False.elim p2
        · exact False.elim p2
      · have e1 : i = xs.length := by omega
        rw [List.drop_of_length_le (by omega)] at p2
        unfold lcM at p2
        split at p2
        · rename_i hrd
          refine .inl ⟨(wd i (wipe σ vs) env2 [.ref D] [.own (.l acc)] ts te H2 xs rfl R2 hrd).1 e1, ?_⟩
          exact p2 _ _ (rel_mid rfl hl (rel_unwipe R2))
        · exact False.elim p2
end
end Tw

namespace Tw
open PySem PySem.Spec PyProof.Rows L2
/-! ### defs as functions of values -/
inductive DRs where
  | ok (r : A) (ios : List A)
  | ex (x : Xc) (ios : List A)
  | bad
abbrev DF := List A → DRs
def backA (a : A) (c : Option A) : A := match a, c with
  | .io _, some c => c
  | a, _ => a
def backs : List A → Env → List A
  | [], _ => []
  | a :: as, [] => a :: backs as []
  | a :: as, c :: e => backA a c :: backs as e
def retA (e : Env) : A → Option A
  | .d x => some (.d x)
  | .own o => some (.own o)
  | .rf i none => match e[i]? with
    | some (some (.own o)) => some (.own o)
    | _ => none
  | _ => none
def endM (as : List A) : Fl → DRs
  | .nx e => .ok (.d .none) (backs as e)
  | .rt a e => match retA e a with
    | some r => .ok r (backs as e)
    | none => .bad
  | .ex x e => .ex x (backs as e)
  | _ => .bad
def runM (n : Nat) (m : MS) : DF := fun as => endM as (m (as.map some ++ List.replicate (n - as.length) none) [])
def backO (a : A) (c : Option (Option A)) : A := match c with
  | some c => backA a c
  | none => a
theorem backs_get : ∀ (as : List A) (e : Env) (i : Nat), (backs as e)[i]? = as[i]?.map fun a => backO a e[i]?
  | [], _, _ => by simp [backs]
  | a :: as, [], 0 => by simp [backs, backO]
  | a :: as, [], i + 1 => by
    have := backs_get as [] i
    simp [backs] at this ⊢
    exact this
  | a :: as, c :: e, 0 => by simp [backs, backO]
  | a :: as, c :: e, i + 1 => by
    have := backs_get as e i
    simp [backs] at this ⊢
    exact this
/-- what may be handed over -/
def KdA (io : Nat → Bool) (as : List A) : Prop := ∀ i a, as[i]? = some a → (∃ x, a = .d x) ∨ (∃ ns, a = .sc ns) ∨ ((∃ o, a = .io o) ∧ io i = true)
def CellR (K : KW) (F H : Hp) (own : Addr → Prop) (v : V) : A → Prop
  | .d x => Dn K F v x
  | .own o => OwO K F H own v o
  | _ => False
def PD (K : KW) (B : Bs) (Q : VK) (E : XK) : DRs → Prop
  | .ok r ios => ∀ F O v H, RelF K B F O (B.vs.map some) (ios.map some) [v] [r] H → CellR K F H (fun a => O a = some B.vs.length ∧ B.H a = none) v r → Q v H
  | .ex x ios => ∀ cls d H us F O, RelF K B F O (B.vs.map some) (ios.map some) [] [] H → DnAll K F us (x.fs.map (·.2)) → XIs K x us cls d F → E cls d H
  | .bad => False
/-- a def's promise by its function -/
def spM (K : KW) (f : DF) : Sp := fun vs H Q E => ∃ F O as S io, vs.length = as.length ∧ KdA io as ∧ RelF K ⟨H, F, S, vs, io, (0, .none, none)⟩ F O (vs.map some) (as.map some) [] [] H ∧ PD K ⟨H, F, S, vs, io, (0, .none, none)⟩ Q E (f as)
/-- the same, where more is known of the beginning -/
def spMZ (K : KW) (Z : Bs → Prop) (f : DF) : Sp := fun vs H Q E => ∃ F O as S io, Z ⟨H, F, S, vs, io, (0, .none, none)⟩ ∧ vs.length = as.length ∧ KdA io as ∧ RelF K ⟨H, F, S, vs, io, (0, .none, none)⟩ F O (vs.map some) (as.map some) [] [] H ∧ PD K ⟨H, F, S, vs, io, (0, .none, none)⟩ Q E (f as)
/-- the same over a heap that has what is known -/
def spMF (K : KW) (F0 : Hp) (f : DF) : Sp := spMZ K (fun B => Same F0 B.F) f
theorem spMZ.sp {K : KW} {Z : Bs → Prop} {f : DF} {vs : List V} {H : Hp} {Q : VK} {E : XK} (h : spMZ K Z f vs H Q E) : spM K f vs H Q E := by
  obtain ⟨F, O, as, S, io, _, h⟩ := h
  exact ⟨F, O, as, S, io, h⟩
section
variable {K : KW} {B : Bs} {F H : Hp} {O : Addr → Option Nat} {σ : List (Option V)} {env : Env}
/-- further slots without a value -/
theorem RelF.pad (R : RelF K B F O σ env [] [] H) (n : Nat) : RelF K B F O (σ ++ List.replicate n none) (env ++ List.replicate n none) [] [] H where
  ln := by rw [List.length_append, List.length_append, R.ln, List.length_replicate, List.length_replicate]
  sl := fun i a e => by
    have il : i < env.length := by
      refine Classical.byContradiction fun z => ?_
      rw [List.getElem?_append_right (by omega), List.getElem?_replicate] at e
      split at e <;> cases e
    rw [List.getElem?_append_left il] at e
    obtain ⟨v, e1, c⟩ := R.sl i a e
    refine ⟨v, by rw [List.getElem?_append_left (by rw [R.ln]; exact il)]; exact e1, c.mono (Same.refl F) (fun _ z => ⟨z, rfl⟩) (fun _ _ => rfl) (fun i p w _ z => ?_) (fun _ _ _ _ z => ⟨z, rfl⟩)⟩
    rw [List.getElem?_append_left (List.getElem?_eq_some_iff.mp z).1]
    exact z
  tm := trivial
  sf := R.sf
  of := fun a j z => by
    obtain ⟨h1, h2, h3, h4⟩ := R.of a j z
    exact ⟨h1, h2, by rw [List.length_append]; simp at h3 ⊢; omega, h4⟩
  b1 := R.b1
  b2 := R.b2
  b3 := R.b3
  b5 := R.b5
  bi := fun i hi => by
    obtain ⟨o, ho⟩ := R.bi i hi
    exact ⟨o, by rw [List.getElem?_append_left (List.getElem?_eq_some_iff.mp ho).1]; exact ho⟩
  tb := R.tb
/-- the end of a def: what the caller sees -/
theorem rel_fin {O0 : Addr → Option Nat} {H0 F0 : Hp} {as : List A} {ts : List V} {te : List A} (R0 : RelF K B F0 O0 (B.vs.map some) (as.map some) [] [] H0) (hF0 : Same F0 F) (kd : KdA B.io as) (R : RelF K B F O σ env ts te H) {v : V} {r : A} (jr : Nat) (hjr : B.io jr = false)
    (hr : CellR K F H (fun a => O a = some jr ∧ B.H a = none) v r) : ∃ O', RelF K B F O' (B.vs.map some) ((backs as env).map some) [v] [r] H ∧ CellR K F H (fun a => O' a = some B.vs.length ∧ B.H a = none) v r := by
  have ln : B.vs.length = as.length := by have := R0.ln; rw [List.length_map, List.length_map] at this; exact this
  have iol : ∀ i, B.io i = true → i < as.length := fun i hi => by
    obtain ⟨o, ho⟩ := R0.bi i hi
    have := (List.getElem?_eq_some_iff.mp ho).1
    rw [List.length_map] at this
    exact this
  have bl : (backs as env).length = as.length := by
    have : ∀ (as : List A) (e : Env), (backs as e).length = as.length := by
      intro as
      induction as with
      | nil => intro e; rfl
      | cons a as ih =>
        intro e
        cases e with
        | nil => exact congrArg (· + 1) (ih [])
        | cons c e => exact congrArg (· + 1) (ih e)
    exact this as env
  let O' : Addr → Option Nat := fun a => if O a = some jr then some B.vs.length else match O a with
    | some j => if B.io j = true then some j else none
    | none => none
  have oj : ∀ a, O a = some jr → O' a = some B.vs.length := fun a z => if_pos z
  have oi : ∀ a j, O a = some j → B.io j = true → O' a = some j := fun a j z hi => by
    have nj : ¬ O a = some jr := by
      rw [z]
      intro y
      rw [Option.some.inj y, hjr] at hi
      cases hi
    show (if O a = some jr then some B.vs.length else match O a with | some j => if B.io j = true then some j else none | none => none) = some j
    rw [if_neg nj, z]
    exact if_pos hi
  have oinv : ∀ a j, O' a = some j → (O a = some jr ∧ j = B.vs.length) ∨ (O a = some j ∧ B.io j = true) := fun a j z => by
    have z : (if O a = some jr then some B.vs.length else match O a with | some j => if B.io j = true then some j else none | none => none) = some j := z
    by_cases c : O a = some jr
    · rw [if_pos c] at z
      exact .inl ⟨c, (Option.some.inj z).symm⟩
    · rw [if_neg c] at z
      cases q : O a with
      | none => rw [q] at z; cases z
      | some k =>
        rw [q] at z
        have z : (if B.io k = true then some k else none) = some j := z
        split at z
        · rename_i h
          cases z
          exact .inr ⟨rfl, h⟩
        · cases z
  have hr' : CellR K F H (fun a => O' a = some B.vs.length ∧ B.H a = none) v r := by
    cases r with
    | d x => exact hr
    | own o => exact OwO.mono (own := fun a => O a = some jr ∧ B.H a = none) (Same.refl F) (fun a z => ⟨oj a z.1, z.2⟩) (fun _ _ => rfl) hr
    | _ => exact hr.elim
  refine ⟨O', ⟨by rw [List.length_map, List.length_map, bl, ln], fun i a e => ?_, ⟨?_, trivial⟩, R.sf, fun a j z => ?_, R.b1, R.b2, R.b3, R.b5, fun i hi => ?_, R.tb⟩, hr'⟩
  · rw [List.getElem?_map, backs_get] at e
    cases q : as[i]? with
    | none => rw [q] at e; cases e
    | some a0 =>
      rw [q] at e
      obtain ⟨v0, hv0, c0⟩ := R0.sl i a0 (by rw [List.getElem?_map, q]; rfl)
      refine ⟨v0, hv0, ?_⟩
      rcases kd i a0 q with ⟨x, rfl⟩ | ⟨ns, rfl⟩ | ⟨⟨o, rfl⟩, hi⟩
      · have e2 : A.d x = a := by
          cases z : env[i]? with
          | none => rw [z] at e; exact Option.some.inj (Option.some.inj e)
          | some c => rw [z] at e; exact Option.some.inj (Option.some.inj e)
        subst e2
        exact Dn.same hF0 c0
      · have e2 : A.sc ns = a := by
          cases z : env[i]? with
          | none => rw [z] at e; exact Option.some.inj (Option.some.inj e)
          | some c => rw [z] at e; exact Option.some.inj (Option.some.inj e)
        subst e2
        obtain ⟨p, e3, h3⟩ := c0
        exact ⟨p, e3, Same.sqL hF0 h3⟩
      · obtain ⟨o', ho'⟩ := R.bi i hi
        rw [ho'] at e
        have e2 : A.io o' = a := Option.some.inj (Option.some.inj e)
        subst e2
        obtain ⟨w, hw, c⟩ := R.sl i _ ho'
        have e3 : v0 = w := by
          have h1 := c.2
          rw [List.getElem?_map] at hv0
          rw [h1] at hv0
          exact (Option.some.inj (Option.some.inj hv0)).symm
        subst e3
        exact ⟨OwO.mono (own := fun a => O a = some i) (Same.refl F) (fun a z => oi a i z hi) (fun _ _ => rfl) c.1, c.2⟩
  · show CellO K B F H O' (B.vs.map some) ((B.vs.map some).length + ([] : List V).length) v r
    rw [List.length_map]
    cases r with
    | d x => exact hr
    | own o => exact hr'
    | _ => exact hr.elim
  · rw [List.length_map]
    rcases oinv a j z with ⟨z1, rfl⟩ | ⟨z1, hi⟩
    · obtain ⟨h1, h2, h3, h4⟩ := R.of a _ z1
      refine ⟨h1, h2, Nat.lt_succ_self _, .inl ?_⟩
      rcases h4 with h4 | ⟨_, h4⟩
      · exact h4
      · rw [hjr] at h4; cases h4
    · obtain ⟨h1, h2, h3, h4⟩ := R.of a _ z1
      refine ⟨h1, h2, ?_, h4⟩
      have := iol j hi
      simp
      omega
  · obtain ⟨o, ho⟩ := R.bi i hi
    refine ⟨o, ?_⟩
    rw [List.getElem?_map, backs_get, ho]
    have il := iol i hi
    rw [List.getElem?_eq_getElem il]
    have hk := kd i as[i] (List.getElem?_eq_getElem il)
    rcases hk with ⟨x, e⟩ | ⟨ns, e⟩ | ⟨⟨o', e⟩, _⟩
    · obtain ⟨o2, ho2⟩ := R0.bi i hi
      rw [List.getElem?_map, List.getElem?_eq_getElem il, e] at ho2
      cases ho2
    · obtain ⟨o2, ho2⟩ := R0.bi i hi
      rw [List.getElem?_map, List.getElem?_eq_getElem il, e] at ho2
      cases ho2
    · rw [e]
      rfl
/-- from a body's mirror to the def's promise -/
theorem pure_of1Z {Z : Bs → Prop} {t : TS} {m : MS} {N : List Str} (vs : List V) (H : Hp) (Q : VK) (E : XK) (h : ∀ B, Z B → SS K B (fun cls d _ H => E cls d H) t m) (p : spMZ K Z (runM N.length m) vs H Q E) : t { nx := fun _ H' => Q .non H', rt := Q } (start N vs) H := by
  obtain ⟨F, O, as, S, io, hf, hl, kd, R, p⟩ := p
  refine h ⟨H, F, S, vs, io, (0, .none, none)⟩ hf (start N vs) (as.map some ++ List.replicate (N.length - as.length) none) [] [] H _ ?_ ?_
  · refine ⟨F, O, ?_⟩
    unfold L2.start
    rw [hl]
    exact R.pad _
  · have p : PD K ⟨H, F, S, vs, io, (0, .none, none)⟩ Q E (endM as (m (as.map some ++ List.replicate (N.length - as.length) none) [])) := p
    have fin : ∀ {F' : Hp} {O' : Addr → Option Nat} {σ : List (Option V)} {e : Env} {ts : List V} {te : List A} {H' : Hp} {v : V} {r : A} (R' : RelF K ⟨H, F, S, vs, io, (0, .none, none)⟩ F' O' σ e ts te H') (jr : Nat) (hjr : io jr = false) (hr : CellR K F' H' (fun a => O' a = some jr ∧ H a = none) v r) (p : PD K ⟨H, F, S, vs, io, (0, .none, none)⟩ Q E (.ok r (backs as e))), Q v H' := by
      intro F' O' σ e ts te H' v r R' jr hjr hr p
      obtain ⟨O2, R2, c2⟩ := rel_fin R R'.b1 kd R' jr hjr hr
      exact p F' O2 v H' R2 c2
    cases q : m (as.map some ++ List.replicate (N.length - as.length) none) [] with
    | nx e =>
      rw [q] at p
      rintro σ H' ⟨F', O', R'⟩
      refine fin R' σ.length ?_ (r := .d .none) .non p
      cases c : io σ.length with
      | false => rfl
      | true =>
        obtain ⟨o, ho⟩ := R'.bi _ c
        have := (List.getElem?_eq_some_iff.mp ho).1
        have := R'.ln
        omega
    | rt a e =>
      rw [q] at p
      rintro v σ ts' te' H' ⟨F', O', R'⟩
      have p : PD K ⟨H, F, S, vs, io, (0, .none, none)⟩ Q E (match retA e a with | some r => .ok r (backs as e) | none => .bad) := p
      have tj : io (σ.length + ts'.length) = false := by
        cases c : io (σ.length + ts'.length) with
        | false => rfl
        | true =>
          obtain ⟨o, ho⟩ := R'.bi _ c
          have := (List.getElem?_eq_some_iff.mp ho).1
          have := R'.ln
          omega
      cases a with
      | d x => exact fin R' _ tj (r := .d x) R'.tm.1 p
      | own o => exact fin R' _ tj (r := .own o) R'.tm.1 p
      | io o => exact False.elim p
      | sc o => exact False.elim p
      | q o => exact False.elim p
      | lk o => exact False.elim p
      | xr o => exact False.elim p
      | rf i pt =>
        cases pt with
        | some k => exact False.elim p
        | none =>
          cases q2 : e[i]? with
          | none => simp only [retA, q2] at p; exact False.elim p
          | some c =>
            cases c with
            | none => simp only [retA, q2] at p; exact False.elim p
            | some c =>
              cases c with
              | own o =>
                simp only [retA, q2] at p
                obtain ⟨w, hw, e1⟩ := R'.tm.1
                have e1 : v = w := e1
                obtain ⟨w', hw', c'⟩ := R'.sl i _ q2
                rw [hw] at hw'
                cases hw'
                subst e1
                refine fin R' i ?_ (r := .own o) c' p
                cases c : io i with
                | false => rfl
                | true =>
                  obtain ⟨o, ho⟩ := R'.bi _ c
                  rw [q2] at ho
                  cases ho
              | _ => simp only [retA, q2] at p; exact False.elim p
    | ex x e =>
      rw [q] at p
      intro σ cls d H' us F' O' R' du xi
      have jf : io (σ.length) = false := by
        cases c : io σ.length with
        | false => rfl
        | true =>
          obtain ⟨o, ho⟩ := R'.bi _ c
          have := (List.getElem?_eq_some_iff.mp ho).1
          have := R'.ln
          omega
      obtain ⟨O2, R2, _⟩ := rel_fin R R'.b1 kd R' σ.length jf (v := .non) (r := .d .none) .non
      exact p cls d H' us F' _ R2.pop du xi
    | bk e => rw [q] at p; exact False.elim p
    | ct e => rw [q] at p; exact False.elim p
    | bad => rw [q] at p; exact False.elim p
theorem pure_of1 {t : TS} {m : MS} {N : List Str} (vs : List V) (H : Hp) (Q : VK) (E : XK) (h : ∀ B, SS K B (fun cls d _ H => E cls d H) t m) (p : spM K (runM N.length m) vs H Q E) : t { nx := fun _ H' => Q .non H', rt := Q } (start N vs) H := by
  obtain ⟨F, O, as, S, io, p⟩ := p
  exact pure_of1Z (Z := fun _ => True) vs H Q E (fun B _ => h B) ⟨F, O, as, S, io, trivial, p⟩
theorem pure_of {t : TS} {m : MS} {N : List Str} (h : ∀ B W, SS K B W t m) (vs : List V) (H : Hp) (Q : VK) (E : XK) (p : spM K (runM N.length m) vs H Q E) : t { nx := fun _ H' => Q .non H', rt := Q } (start N vs) H := pure_of1 vs H Q E (fun B => h B _) p
end
end Tw

namespace Tw
open PySem PySem.Spec PyProof.Rows L2
/-! ### data without a list or dict in it -/
mutual
def tupD : Dt → Bool
  | .none => true
  | .bool _ => true
  | .int _ => true
  | .str _ => true
  | .list _ => false
  | .tuple xs => tupAll xs
  | .dict _ => false
def tupAll : List Dt → Bool
  | [] => true
  | x :: xs => tupD x && tupAll xs
end
def Ow.tup : Ow → Bool
  | .l xs => tupAll xs
  | .ll xss => xss.all tupAll
  | .dc kvs => kvs.all fun q => tupD q.2
  | .dl kvs => kvs.all fun q => tupAll q.2
  | .x (.st _) => true
  | .x (.ob _ fs) => fs.all fun q => tupD q.2
  | .x (.dn kvs) => kvs.all fun q => tupD q.2
  | .x (.dt kvs) => kvs.all fun q => tupD q.2
  | .x (.op _) => true
  | .x (.fn _) => true
  | .x (.fns _) => false
  | .x .lam => true
def A.tup : A → Bool
  | .d x => tupD x
  | .own o => o.tup
  | .io o => o.tup
  | _ => true
section
variable {K : KW} {F F' H : Hp}
/-- the heap without some things that may be changed -/
def SubT (F F' : Hp) : Prop := ∀ a o, F a = some o → F' a = some o ∨ ((∀ xs, o ≠ .tup xs) ∧ ∀ b xs, o ≠ .frz b (.tup xs))
mutual
theorem Dn.sub (s : SubT F F') : ∀ {v : V} {d : Dt}, Dn K F v d → tupD d = true → Dn K F' v d
  | _, _, .non, _ => .non
  | _, _, .bl b, _ => .bl b
  | _, _, .int i, _ => .int i
  | _, _, .str x h, _ => .str x h
  | _, _, .lst _ _, h => nomatch h
  | _, _, .dct _ _, h => nomatch h
  | _, _, .tup h hs, g => by
    refine .tup ?_ (DnAll.sub s hs g)
    rcases h with ⟨o, h, d⟩ | h
    · rcases s _ _ h with z | z
      · exact .inl ⟨o, z, d⟩
      · exact absurd rfl (z.2 _ _)
    · exact .inr h
theorem DnAll.sub (s : SubT F F') : ∀ {vs : List V} {ds : List Dt}, DnAll K F vs ds → tupAll ds = true → DnAll K F' vs ds
  | _, _, .nil, _ => .nil
  | _, _, .cons h hs, g => by
    unfold tupAll at g
    rw [Bool.and_eq_true] at g
    exact .cons (Dn.sub s h g.1) (DnAll.sub s hs g.2)
end
theorem OwL.sub (s : SubT F F') {own : Addr → Prop} {v : V} {xs : List Dt} (h : OwL K F H own v xs) (g : tupAll xs = true) : OwL K F' H own v xs := by
  obtain ⟨a, vs, e, o, q, d⟩ := h
  exact ⟨a, vs, e, o, q, d.sub s g⟩
theorem paired_sub {α β : Type} {R R' : α → β → Prop} {p : β → Bool} (f : ∀ a b, R a b → p b = true → R' a b) : ∀ {xs : List α} {ys : List β}, Paired R xs ys → ys.all p = true → Paired R' xs ys
  | _, _, .nil, _ => .nil
  | _, _, .cons h r, g => by
    rw [List.all_cons, Bool.and_eq_true] at g
    exact .cons (f _ _ h g.1) (paired_sub f r g.2)
theorem TupN.sub (s : SubT F F') {a : Addr} {xs : List V} (h : TupN K F a xs) : TupN K F' a xs := by
  rcases h with ⟨o, h, d⟩ | h
  · rcases s _ _ h with z | z
    · exact .inl ⟨o, z, d⟩
    · exact absurd rfl (z.2 _ _)
  · exact .inr h
theorem OwO.sub (s : SubT F F') {own : Addr → Prop} {v : V} {o : Ow} (h : OwO K F H own v o) (g : o.tup = true) : OwO K F' H own v o := by
  cases o with
  | l xs => exact OwL.sub s h g
  | ll xss =>
    obtain ⟨a, vs, e, q, r, n, m, p⟩ := h
    exact ⟨a, vs, e, q, r, n, m, paired_sub (fun _ _ z g => z.sub s g) p g⟩
  | dc kvs =>
    obtain ⟨a, us, e, q, r, p⟩ := h
    exact ⟨a, us, e, q, r, paired_sub (fun _ _ z g => ⟨z.1, z.2.sub s g⟩) p g⟩
  | dl kvs =>
    obtain ⟨a, us, e, q, r, n, m, p⟩ := h
    exact ⟨a, us, e, q, r, n, m, paired_sub (fun _ _ z g => ⟨z.1, z.2.sub s g⟩) p g⟩
  | x t =>
    cases t with
    | st xs => exact h
    | op u => exact h
    | fn u => exact h
    | fns nms => cases g
    | lam => exact h
    | ob c fs =>
      obtain ⟨a, dx, us, e, o1, o2, q1, q2, p⟩ := h
      exact ⟨a, dx, us, e, o1, o2, q1, q2, paired_sub (fun _ _ z g => ⟨z.1, z.2.sub s g⟩) p g⟩
    | dn kvs =>
      obtain ⟨a, us, e, o1, q1, p⟩ := h
      exact ⟨a, us, e, o1, q1, paired_sub (fun _ _ z g => ⟨z.1, z.2.sub s g⟩) p g⟩
    | dt kvs =>
      obtain ⟨a, us, e, o1, q1, p⟩ := h
      exact ⟨a, us, e, o1, q1, paired_sub (fun _ _ z g => ⟨z.1, TupN.sub s z.2.1, z.2.2.sub s g⟩) p g⟩
end
/-! ### arguments -/
def A.ioTup : A → Bool
  | .io o => o.tup
  | _ => true
structure Ag where
  a : A
  io : Option Nat
  br : Option Nat
def cvA (io : Bool) (env : Env) (a : A) : Option Ag := match a, io with
  | .d x, _ => some ⟨.d x, none, none⟩
  | .sc ns, _ => some ⟨.sc ns, none, none⟩
  | .rf i none, true => match owAt env i with
    | some o => some ⟨.io o, some i, none⟩
    | none => none
  | .rf i p, false => match (A.rf i p).val env with
    | some x => some ⟨.d x, none, some i⟩
    | none => none
  | _, _ => none
def cvAs : List Bool → List A → Env → Option (List Ag)
  | [], [], _ => some []
  | io :: bs, a :: as, env => match cvA io env a, cvAs bs as env with
    | some g, some gs => some (g :: gs)
    | _, _ => none
  | _, _, _ => none
def ioS (L : List Ag) : List Nat := L.filterMap (·.io)
def brS (L : List Ag) : List Nat := L.filterMap (·.br)
def agOk (env : Env) (te : List A) (L : List Ag) : Bool := decide (ioS L).Nodup && (ioS L).all fun i => !(brS L).contains i && !anyC (isNest i) env te
def setOw (env : Env) (i : Nat) (a : A) : Env := match env[i]?, a with
  | some (some (.own _)), .io o => env.set i (some (.own o))
  | some (some (.io _)), .io o => env.set i (some (.io o))
  | _, _ => env
def setIo : Env → List Ag → List A → Env
  | env, g :: gs, a :: ios => match g.io with
    | some i => setIo (setOw env i a) gs ios
    | none => setIo env gs ios
  | env, _, _ => env
def doCall (f : DF) (env : Env) (te : List A) (L : List Ag) : Rs A := if agOk env te L = true then (match f (L.map (·.a)) with
    | .ok r ios => if (brS L).isEmpty = true ∨ (r.tup = true ∧ ios.all A.ioTup = true) then .ok r (setIo env L ios) else .bad
    | .ex x ios => if (brS L).isEmpty = true ∨ (x.fs.all (fun q => tupD q.2) = true ∧ ios.all A.ioTup = true) then .ex x (setIo env L ios) else .bad
    | .bad => .bad) else .bad
def mCall (f : DF) (io : List Bool) (m : MA) : ME := fun env te => (m env te).bind fun as e => match cvAs io as e with
  | some L => doCall f e te L
  | none => .bad
/-! ### soundness of a call -/
def simA : A → Bool
  | .own _ => false
  | .io _ => false
  | _ => true
theorem cvA_sim {io : Bool} {env : Env} {a : A} {g : Ag} (h : cvA io env a = some g) : simA a = true := by
  cases a with
  | own o => cases io <;> cases h
  | io o => cases io <;> cases h
  | _ => rfl
theorem cvAs_sim : ∀ {bs : List Bool} {as : List A} {env : Env} {L : List Ag}, cvAs bs as env = some L → ∀ a ∈ as, simA a = true
  | [], [], _, _, _, a, h => nomatch h
  | io :: bs, b :: as, env, L, h, a, hm => by
    unfold cvAs at h
    cases q : cvA io env b with
    | none => rw [q] at h; cases h
    | some g =>
      cases q2 : cvAs bs as env with
      | none => rw [q, q2] at h; cases h
      | some gs =>
        rcases List.mem_cons.mp hm with rfl | hm
        · exact cvA_sim q
        · exact cvAs_sim q2 a hm
  | [], _ :: _, _, _, h, _, _ => nomatch h
  | _ :: _, [], _, _, h, _, _ => nomatch h
section
variable {K : KW} {B : Bs} {F H : Hp} {σ : List (Option V)} {env : Env} {ts : List V} {te : List A}
theorem args_cells : ∀ {us : List V} {ue : List A} {O : Addr → Option Nat}, us.length = ue.length → (∀ a ∈ ue, simA a = true) → RelF K B F O σ env (us ++ ts) (ue ++ te) H →
    ∃ O', RelF K B F O' σ env ts te H ∧ (∀ b i, i < σ.length → O b = some i → O' b = some i) ∧ Paired (fun v a => CellO K B F H O' σ 0 v a) us ue
  | [], [], O, _, _, R => ⟨O, R, (fun _ _ _ z => z), .nil⟩
  | u :: us, a :: ue, O, hl, hs, R => by
    obtain ⟨O', R', k, p⟩ := args_cells (Nat.succ.inj hl) (fun a h => hs a (List.mem_cons_of_mem _ h)) (RelF.pop R)
    have k' : ∀ b i, i < σ.length → O b = some i → O' b = some i := fun b i hi z => k b i hi ((if_neg (by rw [z]; intro y; have := Option.some.inj y; omega)).trans z)
    refine ⟨O', R', k', .cons ?_ p⟩
    have c := R.tm.1
    have sa := hs a List.mem_cons_self
    cases a with
    | d x => exact c
    | own o => cases sa
    | io o => cases sa
    | sc ns => exact c
    | q ns => exact c
    | lk ns => exact c
    | xr ns => exact c
    | rf i q =>
      obtain ⟨w, hw, c⟩ := c
      have il := (List.getElem?_eq_some_iff.mp hw).1
      exact ⟨w, hw, c.mono fun _ b z => ⟨k' b i il z, rfl⟩⟩
  | [], _ :: _, _, h, _, _ => nomatch h
  | _ :: _, [], _, h, _, _ => nomatch h
theorem paired_appR {α β : Type} {R : α → β → Prop} : ∀ {xs : List α} {ys : List β} {x : α} {y : β}, Paired R xs ys → R x y → Paired R (xs ++ [x]) (ys ++ [y])
  | _, _, _, _, .nil, h => .cons h .nil
  | _, _, _, _, .cons g r, h => .cons g (paired_appR r h)
theorem paired_rev {α β : Type} {R : α → β → Prop} : ∀ {xs : List α} {ys : List β}, Paired R xs ys → Paired R xs.reverse ys.reverse
  | _, _, .nil => .nil
  | _, _, .cons h r => by
    rw [List.reverse_cons, List.reverse_cons]
    exact paired_appR (paired_rev r) h
/-- what is known of an argument -/
def GA (K : KW) (F H : Hp) (O : Addr → Option Nat) (σ : List (Option V)) (env : Env) (v : V) (g : Ag) : Prop :=
  (∃ x, g = ⟨.d x, none, none⟩ ∧ Dn K F v x) ∨ (∃ i o x, o.dt = some x ∧ g = ⟨.d x, none, some i⟩ ∧ OwO K F H (fun a => O a = some i) v o) ∨ (∃ ns a, g = ⟨.sc ns, none, none⟩ ∧ v = .ref a ∧ SqL K F a (ns.map V.int)) ∨
    ∃ o i, g = ⟨.io o, some i, none⟩ ∧ OwO K F H (fun a => O a = some i) v o ∧ σ[i]? = some (some v) ∧ owAt env i = some o
variable {O : Addr → Option Nat}
/-- what a reference tells is owned by its slot -/
theorem cell_rf (R : RelF K B F O σ env ts te H) {j i : Nat} {p : Option Key} {v : V} {o : Ow} (c : CellO K B F H O σ j v (.rf i p)) (h : (A.rf i p).ow env = some o) : OwO K F H (fun a => O a = some i) v o := by
  obtain ⟨w, hw, q⟩ := c
  cases p with
  | none => cases q; exact R.owAt h hw
  | some k =>
    have h' : (match Tw.owAt env i with | some o => (o.sub k).map Ow.l | none => none) = some o := h
    cases e : Tw.owAt env i with
    | none => rw [e] at h'; cases h'
    | some u =>
      rw [e] at h'
      obtain ⟨a, ew, oa, q⟩ := q
      have z := R.owAt e hw
      have h' : (u.sub k).map Ow.l = some o := h'
      cases hs : u.sub k with
      | none => rw [hs] at h'; cases h'
      | some xs =>
        rw [hs] at h'
        cases h'
        cases u with
        | l _ => cases hs
        | dc _ => cases hs
        | x _ => cases hs
        | ll xss =>
          obtain ⟨a', vs, e1, o1, h1, n1, m1, p1⟩ := z
          rw [ew] at e1
          cases e1
          cases k with
          | inr _ => cases hs
          | inl n =>
            have hs' : (if 0 ≤ n then xss[n.toNat]? else none) = some xs := hs
            by_cases n0 : 0 ≤ n
            · rw [if_pos n0] at hs'
              rcases q with ⟨vs', m, em, m0, hv, hq⟩ | ⟨us, hu, _⟩
              · cases em
                rw [h1] at hv
                cases hv
                obtain ⟨x, hx, r⟩ := paired_getR p1 hs'
                rw [hq] at hx
                cases hx
                exact r
              · rw [h1] at hu; cases hu
            · rw [if_neg n0] at hs'; cases hs'
        | dl kvs =>
          obtain ⟨a', us, e1, o1, h1, n1, m1, p1⟩ := z
          rw [ew] at e1
          cases e1
          rcases q with ⟨vs', m, em, m0, hv, hq⟩ | ⟨us', hu, hq⟩
          · rw [h1] at hv; cases hv
          · rw [h1] at hu
            cases hu
            obtain ⟨x, hx, r⟩ := (paired_lk (R := OwL K F H fun a => O a = some i) p1 k).1 xs hs
            rw [hq] at hx
            cases hx
            exact r
theorem cvA_ga (R : RelF K B F O σ env ts te H) {io : Bool} {v : V} {a : A} {g : Ag} (c : CellO K B F H O σ 0 v a) (h : cvA io env a = some g) : GA K F H O σ env v g := by
  cases a with
  | d x => cases io <;> (cases h; exact .inl ⟨x, rfl, c⟩)
  | sc ns =>
    obtain ⟨a, e, q⟩ := c
    cases io <;> (cases h; exact .inr (.inr (.inl ⟨ns, a, rfl, e, q⟩)))
  | own o => cases io <;> cases h
  | io o => cases io <;> cases h
  | q o => cases io <;> cases h
  | lk o => cases io <;> cases h
  | xr o => cases io <;> cases h
  | rf i p =>
    cases io with
    | false =>
      replace h : (match (A.rf i p).val env with | some x => some (⟨.d x, none, some i⟩ : Ag) | none => none) = some g := by cases p <;> exact h
      have h : (match (A.rf i p).val env with | some x => some (⟨.d x, none, some i⟩ : Ag) | none => none) = some g := h
      cases q : (A.rf i p).ow env with
      | none =>
        have q2 : (A.rf i p).val env = none := by show ((A.rf i p).ow env).bind Ow.dt = none; rw [q]; rfl
        rw [q2] at h; cases h
      | some o =>
        have q2 : (A.rf i p).val env = o.dt := by show ((A.rf i p).ow env).bind Ow.dt = o.dt; rw [q]; rfl
        rw [q2] at h
        cases hd : o.dt with
        | none => rw [hd] at h; cases h
        | some d =>
          rw [hd] at h
          cases h
          exact .inr (.inl ⟨i, o, d, hd, rfl, cell_rf R c q⟩)
    | true =>
      cases p with
      | some k => cases h
      | none =>
        have h : (match owAt env i with | some o => some (⟨.io o, some i, none⟩ : Ag) | none => none) = some g := h
        cases q : owAt env i with
        | none => rw [q] at h; cases h
        | some o =>
          rw [q] at h
          cases h
          obtain ⟨w, hw, e⟩ := id c
          have e : v = w := e
          subst e
          exact .inr (.inr (.inr ⟨o, i, rfl, cell_rf R c q, hw, q⟩))
theorem cvAs_ga (R : RelF K B F O σ env ts te H) : ∀ {bs : List Bool} {vs : List V} {as : List A} {L : List Ag}, Paired (fun v a => CellO K B F H O σ 0 v a) vs as → cvAs bs as env = some L → Paired (GA K F H O σ env) vs L
  | [], [], [], _, .nil, h => by cases h; exact .nil
  | io :: bs, v :: vs, a :: as, L, .cons c r, h => by
    unfold cvAs at h
    cases q : cvA io env a with
    | none => rw [q] at h; cases h
    | some g =>
      cases q2 : cvAs bs as env with
      | none => rw [q, q2] at h; cases h
      | some gs =>
        rw [q, q2] at h
        cases h
        exact .cons (cvA_ga R c q) (cvAs_ga R r q2)
  | _ :: _, [], [], _, .nil, h => nomatch h
  | [], _ :: _, _ :: _, _, .cons _ _, h => nomatch h
end
theorem ioS_mem : ∀ {L : List Ag} {k : Nat} {g : Ag} {i : Nat}, L[k]? = some g → g.io = some i → i ∈ ioS L
  | g' :: L, 0, g, i, h, hi => by
    cases h
    unfold ioS
    rw [List.filterMap_cons, hi]
    exact List.mem_cons_self
  | g' :: L, k + 1, g, i, h, hi => by
    have := ioS_mem (L := L) (k := k) (by simpa using h) hi
    unfold ioS at this ⊢
    rw [List.filterMap_cons]
    cases g'.io with
    | none => exact this
    | some j => exact List.mem_cons_of_mem _ this
theorem ioS_inv : ∀ {L : List Ag} {i : Nat}, i ∈ ioS L → ∃ (k : Nat) (g : Ag), L[k]? = some g ∧ g.io = some i := fun {L i} h => by
  unfold ioS at h
  obtain ⟨g, hg, e⟩ := List.mem_filterMap.mp h
  obtain ⟨k, hk⟩ := List.getElem?_of_mem hg
  exact ⟨k, g, hk, e⟩
theorem brS_mem {L : List Ag} {k : Nat} {g : Ag} {i : Nat} (h : L[k]? = some g) (hi : g.br = some i) : i ∈ brS L := List.mem_filterMap.mpr ⟨g, List.mem_of_getElem? h, hi⟩
theorem ioS_uniq : ∀ {L : List Ag}, (ioS L).Nodup → ∀ {k k' : Nat} {g g' : Ag} {i : Nat}, L[k]? = some g → L[k']? = some g' → g.io = some i → g'.io = some i → k = k'
  | [], _, _, _, _, _, _, h, _, _, _ => by simp at h
  | g0 :: L, nd, k, k', g, g', i, h, h', e, e' => by
    have nd' : (ioS L).Nodup := by
      unfold ioS at nd ⊢
      rw [List.filterMap_cons] at nd
      cases q : g0.io with
      | none => rw [q] at nd; exact nd
      | some j => rw [q] at nd; exact (List.nodup_cons.mp nd).2
    have no : g0.io = some i → ∀ (n : Nat) (g2 : Ag), L[n]? = some g2 → g2.io ≠ some i := fun q n g2 hn he => by
      have nd := nd
      unfold ioS at nd
      rw [List.filterMap_cons, q] at nd
      exact (List.nodup_cons.mp nd).1 (ioS_mem hn he)
    cases k with
    | zero =>
      cases k' with
      | zero => rfl
      | succ n' => cases h; exact absurd e' (no e n' g' (by simpa using h'))
    | succ n =>
      cases k' with
      | zero => cases h'; exact absurd e (no e' n g (by simpa using h))
      | succ n' => exact congrArg (· + 1) (ioS_uniq nd' (by simpa using h) (by simpa using h') e e')
theorem setOw_other {env : Env} {i j : Nat} {a : A} (h : j ≠ i) : (setOw env i a)[j]? = env[j]? := by
  unfold setOw
  split
  · rw [List.getElem?_set, if_neg (Ne.symm h)]
  · rw [List.getElem?_set, if_neg (Ne.symm h)]
  · rfl
theorem setOw_len {env : Env} {i : Nat} {a : A} : (setOw env i a).length = env.length := by
  unfold setOw
  split
  · rw [List.length_set]
  · rw [List.length_set]
  · rfl
theorem setIo_len : ∀ {L : List Ag} {env : Env} {ios : List A}, (setIo env L ios).length = env.length
  | [], _, _ => rfl
  | _ :: _, _, [] => rfl
  | g :: L, env, a :: ios => by
    unfold setIo
    split
    · rw [setIo_len, setOw_len]
    · rw [setIo_len]
theorem setIo_other {j : Nat} : ∀ {L : List Ag} {env : Env} {ios : List A}, j ∉ ioS L → (setIo env L ios)[j]? = env[j]?
  | [], _, _, _ => rfl
  | _ :: _, _, [], _ => rfl
  | g :: L, env, a :: ios, h => by
    unfold setIo
    unfold ioS at h
    rw [List.filterMap_cons] at h
    split
    · rename_i i hi
      rw [hi] at h
      rw [setIo_other (L := L) (fun z => h (List.mem_cons_of_mem _ z)), setOw_other (fun z => h (by rw [z]; exact List.mem_cons_self))]
    · rename_i hi
      rw [hi] at h
      exact setIo_other (L := L) h
theorem setIo_at {i : Nat} {o' : Ow} : ∀ {L : List Ag} {env : Env} {ios : List A} {k : Nat} {g : Ag}, (ioS L).Nodup → L[k]? = some g → g.io = some i → ios[k]? = some (.io o') →
    (∀ o, env[i]? = some (some (.own o)) → (setIo env L ios)[i]? = some (some (.own o'))) ∧ (∀ o, env[i]? = some (some (.io o)) → (setIo env L ios)[i]? = some (some (.io o')))
  | [], _, _, _, _, _, h, _, _ => by simp at h
  | g0 :: L, env, [], k, g, nd, h, hi, hio => by simp at hio
  | g0 :: L, env, a :: ios, 0, g, nd, h, hi, hio => by
    cases h
    cases hio
    have nd := nd
    unfold ioS at nd
    rw [List.filterMap_cons, hi] at nd
    have ni : i ∉ ioS L := (List.nodup_cons.mp nd).1
    unfold setIo
    rw [hi]
    simp only
    refine ⟨fun o e => ?_, fun o e => ?_⟩
    · rw [setIo_other ni]
      unfold setOw
      rw [e]
      simp only
      rw [List.getElem?_set, if_pos rfl, if_pos (List.getElem?_eq_some_iff.mp e).1]
    · rw [setIo_other ni]
      unfold setOw
      rw [e]
      simp only
      rw [List.getElem?_set, if_pos rfl, if_pos (List.getElem?_eq_some_iff.mp e).1]
  | g0 :: L, env, a :: ios, k + 1, g, nd, h, hi, hio => by
    have nd' : (ioS L).Nodup := by
      unfold ioS at nd ⊢
      rw [List.filterMap_cons] at nd
      cases q : g0.io with
      | none => rw [q] at nd; exact nd
      | some j => rw [q] at nd; exact (List.nodup_cons.mp nd).2
    have hk : L[k]? = some g := by simpa using h
    have ne : ∀ j, g0.io = some j → i ≠ j := fun j q z => by
      have := ioS_uniq nd (k := 0) (k' := k + 1) rfl h (by rw [q, z]) hi
      omega
    unfold setIo
    split
    · rename_i j hj
      obtain ⟨h1, h2⟩ := setIo_at (env := setOw env j a) (ios := ios) nd' hk hi (by simpa using hio)
      exact ⟨fun o e => h1 o (by rw [setOw_other (ne j hj)]; exact e), fun o e => h2 o (by rw [setOw_other (ne j hj)]; exact e)⟩
    · exact setIo_at (ios := ios) nd' hk hi (by simpa using hio)
end Tw

namespace Tw
open PySem PySem.Spec PyProof.Rows L2
section
variable {K : KW} {B : Bs} {W : WX} {F H : Hp} {O : Addr → Option Nat} {σ : List (Option V)} {env : Env} {ts : List V} {te : List A}
def kOf (L : List Ag) (i : Nat) : Option Nat := L.findIdx? fun g => decide (g.io = some i)
theorem kOf_some {L : List Ag} {i k : Nat} (h : kOf L i = some k) : ∃ g, L[k]? = some g ∧ g.io = some i := by
  unfold kOf at h
  obtain ⟨hk, hp, _⟩ := List.findIdx?_eq_some_iff_getElem.mp h
  exact ⟨L[k], List.getElem?_eq_getElem hk, of_decide_eq_true hp⟩
theorem kOf_at {L : List Ag} (nd : (ioS L).Nodup) {i k : Nat} {g : Ag} (h : L[k]? = some g) (hi : g.io = some i) : kOf L i = some k := by
  cases q : kOf L i with
  | none =>
    unfold kOf at q
    have := List.findIdx?_eq_none_iff.mp q g (List.mem_of_getElem? h)
    rw [hi] at this
    simp at this
  | some k' =>
    obtain ⟨g', h', hi'⟩ := kOf_some q
    rw [ioS_uniq nd h h' hi hi']
theorem kOf_none {L : List Ag} {i : Nat} (h : i ∉ ioS L) : kOf L i = none := by
  cases q : kOf L i with
  | none => rfl
  | some k =>
    obtain ⟨g, h1, h2⟩ := kOf_some q
    exact absurd (ioS_mem h1 h2) h
open Classical in
theorem call_start (R : RelF K B F O σ env ts te H) {vs : List V} {L : List Ag} (g : Paired (GA K F H O σ env) vs L) (nd : (ioS L).Nodup) (dj : ∀ i ∈ ioS L, i ∉ brS L) :
    KdA (fun k => match L[k]? with | some g => g.io.isSome | none => false) (L.map (·.a)) ∧
    RelF K ⟨H, fun a => if ∃ i ∈ brS L, O a = some i then H a else F a, fun a => (O a).bind (kOf L), vs, fun k => (match L[k]? with | some g => g.io.isSome | none => false), (0, .none, none)⟩
      (fun a => if ∃ i ∈ brS L, O a = some i then H a else F a) (fun a => (O a).bind (kOf L)) (vs.map some) ((L.map (·.a)).map some) [] [] H := by
  have sF : Same F (fun a => if ∃ i ∈ brS L, O a = some i then H a else F a) := fun a o e => by
    show (if ∃ i ∈ brS L, O a = some i then H a else F a) = some o
    rw [if_neg]
    · exact e
    · rintro ⟨i, _, z⟩
      rw [(R.of a i z).1] at e
      cases e
  have iok : ∀ {k : Nat} {g : Ag}, L[k]? = some g → (match L[k]? with | some g => g.io.isSome | none => false) = g.io.isSome := fun h => by rw [h]
  refine ⟨fun k a e => ?_, ⟨?_, fun k a e => ?_, trivial, ?_, fun a k z => ?_, Same.refl _, fun b o _ _ e => e, fun b h1 h2 => absurd h1 h2, fun b h => h, fun k hk => ?_, fun p hp => ⟨(if_neg (by
    rintro ⟨i, _, z⟩
    rw [(R.tabO hp).1] at z
    cases z)).trans (R.noF hp), (R.tabO hp).2, by
      show (O p.1).bind (kOf L) = none
      rw [(R.tabO hp).1]
      rfl⟩, R.tb.2⟩⟩
  · rw [List.getElem?_map] at e
    cases q : L[k]? with
    | none => rw [q] at e; cases e
    | some ag =>
      rw [q] at e
      cases e
      obtain ⟨v, hv, ga⟩ := paired_getR g q
      rcases ga with ⟨x, rfl, _⟩ | ⟨i, o, xd, hxd, rfl, _⟩ | ⟨ns, p, rfl, _⟩ | ⟨o, i, rfl, _⟩
      · exact .inl ⟨_, rfl⟩
      · exact .inl ⟨_, rfl⟩
      · exact .inr (.inl ⟨_, rfl⟩)
      · exact .inr (.inr ⟨⟨_, rfl⟩, by simp only [q]; rfl⟩)
  · rw [List.length_map, List.length_map, List.length_map]
    exact g.length
  · rw [List.map_map, List.getElem?_map] at e
    cases q : L[k]? with
    | none => rw [q] at e; cases e
    | some ag =>
      rw [q] at e
      cases e
      obtain ⟨v, hv, ga⟩ := paired_getR g q
      refine ⟨v, by rw [List.getElem?_map, hv]; rfl, ?_⟩
      rcases ga with ⟨x, rfl, c⟩ | ⟨i, o, xd, hxd, rfl, c⟩ | ⟨ns, p, rfl, e, c⟩ | ⟨o, i, rfl, c, h1, h2⟩
      · exact Dn.same sF c
      · refine OwO.dn (own := fun a => O a = some i) sF (fun a z => if_pos ⟨i, brS_mem q rfl, z⟩) c hxd
      · exact ⟨p, e, Same.sqL sF c⟩
      · refine ⟨OwO.mono (own := fun a => O a = some i) sF (fun a z => ?_) (fun _ _ => rfl) c, hv⟩
        show (O a).bind (kOf L) = some k
        rw [z]
        exact kOf_at nd q rfl
  · intro a o e
    have e : (if ∃ i ∈ brS L, O a = some i then H a else F a) = some o := e
    split at e
    · exact e
    · exact R.sf a o e
  · have z : (O a).bind (kOf L) = some k := z
    cases q : O a with
    | none => rw [q] at z; cases z
    | some i =>
      rw [q] at z
      obtain ⟨ag, h1, h2⟩ := kOf_some z
      obtain ⟨q1, q2, q3, q4⟩ := R.of a i q
      refine ⟨?_, q2, ?_, .inr ⟨by show (O a).bind (kOf L) = some k; rw [q]; exact z, by simp only [h1, h2]; rfl⟩⟩
      · refine (if_neg ?_).trans q1
        rintro ⟨j, hj, z2⟩
        first | (rw [q] at z2; cases z2; exact dj i (ioS_mem h1 h2) hj) | (cases z2; exact dj i (ioS_mem h1 h2) hj)
      · rw [List.length_map, g.length]
        have := (List.getElem?_eq_some_iff.mp h1).1
        simpa using this
  · have hk : (match L[k]? with | some g => g.io.isSome | none => false) = true := hk
    cases q : L[k]? with
    | none => rw [q] at hk; cases hk
    | some ag =>
      rw [q] at hk
      obtain ⟨v, hv, ga⟩ := paired_getR g q
      rcases ga with ⟨x, rfl, c⟩ | ⟨i, o, xd, hxd, rfl, c⟩ | ⟨ns, p, rfl, e, c⟩ | ⟨o, i, rfl, c, h1, h2⟩
      · cases hk
      · cases hk
      · cases hk
      · exact ⟨o, by rw [List.map_map, List.getElem?_map, q]; rfl⟩
open Classical in
/-- behind the call: the caller's own things again -/
theorem call_back (R : RelF K B F O σ env ts te H) {vs : List V} {L : List Ag} (g : Paired (GA K F H O σ env) vs L) (nd : (ioS L).Nodup) (dj : ∀ i ∈ ioS L, i ∉ brS L) (nn : ∀ i ∈ ioS L, anyC (isNest i) env te = false)
    {F' H' : Hp} {O' : Addr → Option Nat} {ios : List A} {xs : List V} {xe : List A}
    (R' : RelF K ⟨H, fun a => if ∃ i ∈ brS L, O a = some i then H a else F a, fun a => (O a).bind (kOf L), vs, fun k => (match L[k]? with | some g => g.io.isSome | none => false), (0, .none, none)⟩ F' O' (vs.map some) (ios.map some) xs xe H')
    (tp : (brS L).isEmpty = true ∨ ios.all A.ioTup = true) :
    ∃ F2 O2, RelF K B F2 O2 σ (setIo env L ios) ts te H' ∧ (∀ v x, Dn K F' v x → ((brS L).isEmpty = true ∨ tupD x = true) → Dn K F2 v x) ∧ (∀ us ds, DnAll K F' us ds → ((brS L).isEmpty = true ∨ tupAll ds = true) → DnAll K F2 us ds) ∧ (∀ a fs, F' a = some (.xd fs) → F2 a = some (.xd fs)) ∧
      (∀ v o, OwO K F' H' (fun a => O' a = some vs.length ∧ H a = none) v o → ((brS L).isEmpty = true ∨ o.tup = true) → ∃ O3, RelF K B F2 O3 σ (setIo env L ios) (v :: ts) (.own o :: te) H') := by
  have ioN : ∀ k : Nat, (match L[k]? with | some g => g.io.isSome | none => false) = true → ∃ (ag : Ag) (i : Nat), L[k]? = some ag ∧ ag.io = some i := fun k hk => by
    cases q : L[k]? with
    | none => rw [q] at hk; cases hk
    | some ag =>
      rw [q] at hk
      cases q2 : ag.io with
      | none => simp only [q2] at hk; cases hk
      | some i => exact ⟨ag, i, rfl, q2⟩
  let F2 : Hp := fun a => if ∃ i ∈ brS L, O a = some i then none else F' a
  have f2n : ∀ a i, O a = some i → i ∈ brS L → F2 a = none := fun a i z hi => if_pos ⟨i, hi, z⟩
  have f2p : ∀ a, (¬ ∃ i ∈ brS L, O a = some i) → F2 a = F' a := fun a z => if_neg z
  have sFx : Same F (fun a => if ∃ i ∈ brS L, O a = some i then H a else F a) := fun a o e => by
    show (if ∃ i ∈ brS L, O a = some i then H a else F a) = some o
    rw [if_neg]
    · exact e
    · rintro ⟨i, _, z⟩
      rw [(R.of a i z).1] at e
      cases e
  have sF : Same F F2 := fun a o e => by
    rw [f2p a]
    · exact R'.b1 a o (sFx a o e)
    · rintro ⟨i, _, z⟩
      rw [(R.of a i z).1] at e
      cases e
  have sub : SubT F' F2 := fun a o e => by
    by_cases c : ∃ i ∈ brS L, O a = some i
    · obtain ⟨i, hi, z⟩ := c
      obtain ⟨q1, q2, q3, q4⟩ := R.of a i z
      cases hh : H a with
      | none => exact absurd hh q2.1
      | some u =>
        have e2 : F' a = some u := R'.b1 a u ((if_pos ⟨i, hi, z⟩).trans hh)
        rw [e] at e2
        cases e2
        rw [hh] at q2
        exact .inr ⟨fun xs z => q2.2.1 xs (by rw [z]), fun b u z => q2.2.2.1 b (.tup u) (by rw [z])⟩
    · exact .inl (by rw [f2p a c]; exact e)
  have emp : (brS L).isEmpty = true → F2 = F' := fun h => funext fun a => f2p a (by
    rintro ⟨i, hi, _⟩
    rw [List.isEmpty_iff.mp h] at hi
    cases hi)
  have dn : ∀ v x, Dn K F' v x → ((brS L).isEmpty = true ∨ tupD x = true) → Dn K F2 v x := fun v x h c => by
    rcases c with c | c
    · rw [emp c]; exact h
    · exact Dn.sub sub h c
  have dna : ∀ us ds, DnAll K F' us ds → ((brS L).isEmpty = true ∨ tupAll ds = true) → DnAll K F2 us ds := fun us ds h c => by
    rcases c with c | c
    · rw [emp c]; exact h
    · exact DnAll.sub sub h c
  have ow : ∀ (own : Addr → Prop) v o, OwO K F' H' own v o → ((brS L).isEmpty = true ∨ o.tup = true) → OwO K F2 H' own v o := fun own v o h c => by
    rcases c with c | c
    · rw [emp c]; exact h
    · exact OwO.sub sub h c
  have xdk : ∀ a fs, F' a = some (.xd fs) → F2 a = some (.xd fs) := fun a fs e => by
    by_cases c : ∃ i ∈ brS L, O a = some i
    · obtain ⟨i, hi, z⟩ := c
      obtain ⟨q1, q2, q3, q4⟩ := R.of a i z
      cases hh : H a with
      | none => exact absurd hh q2.1
      | some u =>
        have e2 : F' a = some u := R'.b1 a u ((if_pos ⟨i, hi, z⟩).trans hh)
        rw [e] at e2
        cases e2
        exact absurd hh (q2.2.2.2.1 fs)
    · rw [f2p a c]; exact e
  -- what is not handed over stays
  have stay : ∀ a j, O a = some j → j ∉ ioS L → H' a = H a ∧ F2 a = none ∧ ∀ k, O' a ≠ some k := fun a j z hj => by
    obtain ⟨q1, q2, q3, q4⟩ := R.of a j z
    have nS : (O a).bind (kOf L) = none := by rw [z]; exact kOf_none hj
    have hH : H' a = H a := by
      cases hh : H a with
      | none => exact absurd hh q2.1
      | some u => exact R'.b2 a u nS (fun ps e => by rw [hh, e] at q2; exact q2.2.2.2.2.1 ps rfl) hh
    refine ⟨hH, ?_, fun k hk => ?_⟩
    · by_cases c : ∃ i ∈ brS L, O a = some i
      · exact if_pos c
      · rw [f2p a c]
        cases hf : F' a with
        | none => rfl
        | some u =>
          rcases R'.b3 a ((if_neg c).trans q1) (by rw [hf]; exact nofun) with z | z
          · exact absurd z q2.1
          · exact absurd nS z
    · rcases (R'.of a k hk).2.2.2 with y | y
      · exact q2.1 y
      · have y1 : (O a).bind (kOf L) = some k := y.1
        rw [nS] at y1
        cases y1
  let O2 : Addr → Option Nat := fun a => match O' a with
    | some k => (L[k]?).bind (·.io)
    | none => match O a with
      | some j => if j ∈ ioS L then none else some j
      | none => none
  have o2a : ∀ a j, O a = some j → j ∉ ioS L → O2 a = some j := fun a j z hj => by
    have h := (stay a j z hj).2.2
    show (match O' a with | some k => (L[k]?).bind (·.io) | none => match O a with | some j => if j ∈ ioS L then none else some j | none => none) = some j
    cases q : O' a with
    | some k => exact absurd q (h k)
    | none => simp only [z]; exact if_neg hj
  have o2b : ∀ a k ag i, O' a = some k → L[k]? = some ag → ag.io = some i → O2 a = some i := fun a k ag i z h1 h2 => by
    show (match O' a with | some k => (L[k]?).bind (·.io) | none => match O a with | some j => if j ∈ ioS L then none else some j | none => none) = some i
    rw [z]
    simp only [h1]
    exact h2
  have o2inv : ∀ a j, O2 a = some j → (O a = some j ∧ j ∉ ioS L) ∨ ∃ k ag, O' a = some k ∧ L[k]? = some ag ∧ ag.io = some j := fun a j z => by
    have z : (match O' a with | some k => (L[k]?).bind (·.io) | none => match O a with | some j => if j ∈ ioS L then none else some j | none => none) = some j := z
    cases q : O' a with
    | some k =>
      rw [q] at z
      have z : (L[k]?).bind (·.io) = some j := z
      cases q2 : L[k]? with
      | none => rw [q2] at z; cases z
      | some ag => rw [q2] at z; exact .inr ⟨k, ag, rfl, q2, z⟩
    | none =>
      rw [q] at z
      have z : (match O a with | some j => if j ∈ ioS L then none else some j | none => none) = some j := z
      cases q2 : O a with
      | none => rw [q2] at z; cases z
      | some i =>
        rw [q2] at z
        have z : (if i ∈ ioS L then none else some i) = some j := z
        split at z
        · cases z
        · cases z; exact .inl ⟨rfl, by assumption⟩
  have cm : ∀ {j : Nat} {u : V} {c : A}, CellO K B F H O σ j u c → j ∉ ioS L → (∀ i ∈ ioS L, isNest i c = false) → CellO K B F2 H' O2 σ j u c := fun {j u c} h nj hc => by
    refine h.mono sF (fun b z => ⟨o2a b j z nj, (stay b j z nj).1⟩) (fun _ _ => rfl) (fun _ _ _ _ z => z) (fun i k e b z => ?_)
    by_cases hi : i ∈ ioS L
    · have := hc i hi
      rw [e] at this
      simp [isNest] at this
    · exact ⟨o2a b i z hi, (stay b i z hi).1⟩
  have iol : ∀ i ∈ ioS L, i < σ.length := fun i hi => by
    obtain ⟨k, ag, h1, h2⟩ := ioS_inv hi
    obtain ⟨v, hv, ga⟩ := paired_getR g h1
    rcases ga with ⟨x, rfl, c⟩ | ⟨i, o, xd, hxd, rfl, c⟩ | ⟨ns, p, rfl, e, c⟩ | ⟨o, i', rfl, c, h3, h4⟩
    · cases h2
    · cases h2
    · cases h2
    · cases h2
      exact (List.getElem?_eq_some_iff.mp h3).1
  have tm : ∀ {us : List V} {ue : List A}, (∀ i ∈ ioS L, ∀ a ∈ ue, isNest i a = false) → TmO K B F H O σ us ue → TmO K B F2 H' O2 σ us ue := fun {us} => by
    induction us with
    | nil => intro ue _ h; cases ue with
      | nil => trivial
      | cons => exact h.elim
    | cons u us ih =>
      intro ue hl h
      cases ue with
      | nil => exact h.elim
      | cons x ue =>
        refine ⟨cm h.1 (fun z => ?_) (fun i hi => hl i hi x List.mem_cons_self), ih (fun i hi a ha => hl i hi a (List.mem_cons_of_mem _ ha)) h.2⟩
        have := iol _ z
        omega
  have ioSlot : ∀ i ∈ ioS L, ∃ (k : Nat) (ag : Ag) (o' : Ow) (w : V), L[k]? = some ag ∧ ag.io = some i ∧ ios[k]? = some (.io o') ∧ σ[i]? = some (some w) ∧ OwO K F' H' (fun a => O' a = some k) w o' ∧ ∃ o, owAt env i = some o := fun i hi => by
    obtain ⟨k, ag, h1, h2⟩ := ioS_inv hi
    obtain ⟨v, hv, ga⟩ := paired_getR g h1
    rcases ga with ⟨x, rfl, c⟩ | ⟨i, o, xd, hxd, rfl, c⟩ | ⟨ns, p, rfl, e, c⟩ | ⟨o, i', rfl, c, h3, h4⟩
    · cases h2
    · cases h2
    · cases h2
    · cases h2
      obtain ⟨o', ho'⟩ := R'.bi k (by simp only [h1]; rfl)
      rw [List.getElem?_map] at ho'
      cases q : ios[k]? with
      | none => rw [q] at ho'; cases ho'
      | some a0 =>
        rw [q] at ho'
        cases ho'
        obtain ⟨w, hw, cc⟩ := R'.sl k (.io o') (by rw [List.getElem?_map, q]; rfl)
        have e2 : w = v := by
          rw [List.getElem?_map, hv] at hw
          cases hw
          rfl
        subst e2
        exact ⟨k, _, o', w, h1, rfl, by first | exact q | rfl, h3, cc.1, o, h4⟩
  have iotup : ∀ (k : Nat) (o' : Ow), ios[k]? = some (A.io o') → (brS L).isEmpty = true ∨ o'.tup = true := fun k o' h => by
    rcases tp with c | c
    · exact .inl c
    · exact .inr (List.all_eq_true.mp c _ (List.mem_of_getElem? h))
  have slots : ∀ i a, (setIo env L ios)[i]? = some (some a) → ∃ v, σ[i]? = some (some v) ∧ CellO K B F2 H' O2 σ i v a := fun i a e => by
    by_cases hi : i ∈ ioS L
    · obtain ⟨k, ag, o', w, h1, h2, h3, h4, h5, o, h6⟩ := ioSlot i hi
      refine ⟨w, h4, ?_⟩
      have h5' := ow _ w o' h5 (iotup k o' h3)
      have own2 : OwO K F2 H' (fun a => O2 a = some i) w o' := OwO.mono (own := fun a => O' a = some k) (Same.refl F2) (fun a z => o2b a k ag i z h1 h2) (fun _ _ => rfl) h5'
      unfold Tw.owAt at h6
      cases q : env[i]? with
      | none => rw [q] at h6; cases h6
      | some c =>
        cases c with
        | none => rw [q] at h6; cases h6
        | some c =>
          obtain ⟨s1, s2⟩ := setIo_at (env := env) (ios := ios) nd h1 h2 h3
          cases c with
          | own o0 =>
            rw [s1 o0 q] at e
            cases e
            refine OwO.mono (own := fun a => O' a = some k) (Same.refl F2) (fun a z => ⟨o2b a k ag i z h1 h2, ?_⟩) (fun _ _ => rfl) h5'
            rcases (R'.of a k z).2.2.2 with y | y
            · exact Classical.byContradiction fun hb => R.b5 a hb y
            · have y1 : (O a).bind (kOf L) = some k := y.1
              cases zj : O a with
              | none => rw [zj] at y1; cases y1
              | some j =>
                rw [zj] at y1
                obtain ⟨ag', g1, g2⟩ := kOf_some y1
                rw [h1] at g1
                cases g1
                rw [h2] at g2
                cases g2
                rcases (R.of a _ zj).2.2.2 with y2 | y2
                · exact y2
                · obtain ⟨o9, h9⟩ := R.bi _ y2.2
                  rw [q] at h9
                  cases h9
          | io o0 =>
            rw [s2 o0 q] at e
            cases e
            refine ⟨own2, ?_⟩
            obtain ⟨w', hw', c'⟩ := R.sl i _ q
            rw [h4] at hw'
            cases hw'
            exact c'.2
          | d x => rw [q] at h6; cases h6
          | rf _ _ => rw [q] at h6; cases h6
          | sc _ => rw [q] at h6; cases h6
          | q _ => rw [q] at h6; cases h6
          | lk _ => rw [q] at h6; cases h6
          | xr _ => rw [q] at h6; cases h6
    · rw [setIo_other hi] at e
      obtain ⟨v, hv, c⟩ := R.sl i a e
      exact ⟨v, hv, cm c hi fun j hj => anyC_env (nn j hj) e⟩
  have RR : RelF K B F2 O2 σ (setIo env L ios) ts te H' := by
    refine ⟨by rw [setIo_len]; exact R.ln, slots, tm (fun i hi a ha => anyC_te (nn i hi) ha) R.tm, fun a o e => ?_, fun a j z => ?_, R.b1.trans sF, fun b o hs ht e => ?_, fun b h1 h2 => ?_, fun b h => R'.b5 b (R.b5 b h), fun i hi => ?_, R.tb.1, R'.tb.2⟩
    · have e : (if ∃ i ∈ brS L, O a = some i then none else F' a) = some o := e
      split at e
      · cases e
      · exact R'.sf a o e
    · rcases o2inv a j z with ⟨z1, hj⟩ | ⟨k, ag, z1, h1, h2⟩
      · obtain ⟨q1, q2, q3, q4⟩ := R.of a j z1
        obtain ⟨s1, s2, s3⟩ := stay a j z1 hj
        exact ⟨s2, by rw [s1]; exact q2, q3, q4⟩
      · obtain ⟨q1, q2, q3, q4⟩ := R'.of a k z1
        refine ⟨?_, q2, ?_, ?_⟩
        · show (if ∃ i ∈ brS L, O a = some i then none else F' a) = none
          split
          · rfl
          · exact q1
        · have := iol j (ioS_mem h1 h2)
          omega
        · rcases q4 with y | y
          · exact .inl (Classical.byContradiction fun hb => R.b5 a hb y)
          · have y1 : (O a).bind (kOf L) = some k := y.1
            cases zj : O a with
            | none => rw [zj] at y1; cases y1
            | some i =>
              rw [zj] at y1
              obtain ⟨ag', g1, g2⟩ := kOf_some y1
              rw [h1] at g1
              cases g1
              rw [h2] at g2
              cases g2
              exact (R.of a _ zj).2.2.2
    · have h := R.b2 b o hs ht e
      cases z : O b with
      | none =>
        exact R'.b2 b o (by show (O b).bind (kOf L) = none; rw [z]; rfl) ht h
      | some j =>
        by_cases hj : j ∈ ioS L
        · rcases (R.of b j z).2.2.2 with y | y
          · rw [y] at e; cases e
          · rw [y.1] at hs; cases hs
        · rw [(stay b j z hj).1]; exact h
    · by_cases c : ∃ i ∈ brS L, O b = some i
      · exact absurd (if_pos c) h2
      · rw [f2p b c] at h2
        cases q : F b with
        | some u => exact R.b3 b h1 (by rw [q]; exact nofun)
        | none =>
          rcases R'.b3 b ((if_neg c).trans q) h2 with z | z
          · exact .inl (Classical.byContradiction fun hb => R.b5 b hb z)
          · have z : (O b).bind (kOf L) ≠ none := z
            cases zj : O b with
            | none => rw [zj] at z; exact absurd rfl z
            | some j =>
              rcases (R.of b j zj).2.2.2 with y | y
              · exact .inl y
              · exact .inr (by rw [y.1]; exact nofun)
    · obtain ⟨o, ho⟩ := R.bi i hi
      by_cases hj : i ∈ ioS L
      · obtain ⟨k, ag, o', w, h1, h2, h3, _⟩ := ioSlot i hj
        exact ⟨o', (setIo_at (env := env) (ios := ios) nd h1 h2 h3).2 o ho⟩
      · exact ⟨o, by rw [setIo_other hj]; exact ho⟩
  refine ⟨F2, O2, RR, dn, dna, xdk, fun v o h c => ?_⟩
  refine ⟨_, RR.pushOwn (fun a => O' a = some vs.length ∧ H a = none) (fun a p => ?_) (ow _ v o h c)⟩
  have ao : O a = none := by
    cases q : O a with
    | none => rfl
    | some j => exact absurd p.2 (R.of a j q).2.1.1
  obtain ⟨q1, q2, q3, q4⟩ := R'.of a _ p.1
  refine ⟨?_, ?_, q2, Classical.byContradiction fun hb => R.b5 a hb p.2⟩
  · show (match O' a with | some k => (L[k]?).bind (·.io) | none => match O a with | some j => if j ∈ ioS L then none else some j | none => none) = none
    rw [p.1]
    have : L[vs.length]? = none := List.getElem?_eq_none (by rw [g.length]; exact Nat.le_refl _)
    simp only [this]
    rfl
  · show (if ∃ i ∈ brS L, O a = some i then none else F' a) = none
    split
    · rfl
    · exact q1
theorem cvAs_len : ∀ {bs : List Bool} {as : List A} {env : Env} {L : List Ag}, cvAs bs as env = some L → as.length = bs.length
  | [], [], _, _, _ => rfl
  | io :: bs, a :: as, env, L, h => by
    unfold cvAs at h
    cases q : cvA io env a with
    | none => rw [q] at h; cases h
    | some g =>
      cases q2 : cvAs bs as env with
      | none => rw [q, q2] at h; cases h
      | some gs => exact congrArg (· + 1) (cvAs_len q2)
  | [], _ :: _, _, _, h => nomatch h
  | _ :: _, [], _, _, h => nomatch h
/-- the call of a def -/
theorem se_callGF {f : DF} {io : List Bool} {t : TA} {m : MA} {sp : Sp} {E : L2.St → XK} (hsp : ∀ σ vs H Q, vs.length = io.length → spMF K B.F f vs H Q (fun cls d H => W cls d σ H) → sp vs H Q (E σ)) (h : SA K B W t m) : SE K B W (fun σ H Q => t σ H fun vs H1 => sp (vs ++ []) H1 Q (E σ)) (mCall f io m) := by
  intro σ env ts te H Q R p
  refine h.thE R p fun as e p vs H1 hl R1 => ?_
  rw [List.append_nil]
  refine hsp σ vs H1 Q (by
    rw [hl]
    cases q : cvAs io as e with
    | none => simp only [q] at p; exact False.elim p
    | some L => exact cvAs_len q) ?_
  cases q : cvAs io as e with
  | none => simp only [q] at p; exact False.elim p
  | some L =>
    simp only [q] at p
    unfold doCall at p
    split at p
    case isFalse => exact False.elim p
    rename_i ok
    obtain ⟨F, O, R1⟩ := R1
    obtain ⟨O, R1, _, pr⟩ := args_cells (by rw [List.length_reverse, List.length_reverse]; exact hl) (fun a ha => cvAs_sim q a (List.mem_reverse.mp ha)) R1
    have pr := paired_rev pr
    rw [List.reverse_reverse, List.reverse_reverse] at pr
    have g := cvAs_ga R1 pr q
    unfold agOk at ok
    rw [Bool.and_eq_true] at ok
    have nd : (ioS L).Nodup := of_decide_eq_true ok.1
    have al := fun i (hi : i ∈ ioS L) => List.all_eq_true.mp ok.2 i hi
    have dj : ∀ i ∈ ioS L, i ∉ brS L := fun i hi => by
      have := al i hi
      simp only [Bool.and_eq_true, Bool.not_eq_true'] at this
      intro z
      rw [List.contains_eq_mem, decide_eq_false_iff_not] at this
      exact this.1 z
    have nn : ∀ i ∈ ioS L, anyC (isNest i) e te = false := fun i hi => by
      have := al i hi
      simp only [Bool.and_eq_true, Bool.not_eq_true'] at this
      exact this.2
    obtain ⟨kd, R2⟩ := call_start R1 g nd dj
    refine ⟨_, _, _, _, _, fun b o e => ?fl, by rw [List.length_map]; exact g.length, kd, R2, ?_⟩
    case fl =>
      have e := R1.b1 b o e
      show (if ∃ i ∈ brS L, O b = some i then H1 b else F b) = some o
      rw [if_neg]
      · exact e
      · rintro ⟨i, _, z⟩
        rw [(R1.of b i z).1] at e
        cases e
    cases q2 : f (L.map (·.a)) with
    | bad => simp only [q2] at p; exact False.elim p
    | ok r ios =>
      simp only [q2] at p
      split at p
      case isFalse => exact False.elim p
      rename_i tp
      intro F' O' v H' R' c
      obtain ⟨F2, O2, R3, dn, dna, xdk, ow⟩ := call_back R1 g nd dj nn R' (tp.imp id And.right)
      cases r with
      | d x => exact p v H' (R3.pushD (dn v x c (tp.imp id And.left)))
      | own o =>
        obtain ⟨O3, R4⟩ := ow v o c (tp.imp id And.left)
        exact p v H' ⟨F2, O3, R4⟩
      | _ => exact c.elim
    | ex x ios =>
      simp only [q2] at p
      split at p
      case isFalse => exact False.elim p
      rename_i tp
      intro cls d H' us F' O' R' du xi
      obtain ⟨F2, O2, R3, dn, dna, xdk, ow⟩ := call_back R1 g nd dj nn R' (tp.imp id And.right)
      have tf : (brS L).isEmpty = true ∨ tupAll (x.fs.map (·.2)) = true := by
        refine tp.imp id fun z => ?_
        have z := z.1
        generalize x.fs = l at z
        induction l with
        | nil => rfl
        | cons b l ih =>
          rw [List.all_cons, Bool.and_eq_true] at z
          show (tupD b.2 && tupAll (l.map (·.2))) = true
          rw [z.1, ih z.2]
          rfl
      exact p cls d H' us F2 O2 R3 (dna us _ du tf) ⟨xi.1, xi.2.imp id fun ⟨dx, e1, e2⟩ => ⟨dx, e1, xdk _ _ e2⟩⟩
theorem se_callG {f : DF} {io : List Bool} {t : TA} {m : MA} {sp : Sp} {E : L2.St → XK} (hsp : ∀ σ vs H Q, vs.length = io.length → spM K f vs H Q (fun cls d H => W cls d σ H) → sp vs H Q (E σ)) (h : SA K B W t m) : SE K B W (fun σ H Q => t σ H fun vs H1 => sp (vs ++ []) H1 Q (E σ)) (mCall f io m) :=
  se_callGF (fun σ vs H Q hv p => hsp σ vs H Q hv (spMZ.sp p)) h
end
end Tw

namespace Tw
open PySem PySem.Spec PyProof.Rows L2
/-! ### operators -/
section
variable {K : KW} {H : Hp}
mutual
theorem dn_dp : ∀ {v : V} {x : Dt}, Dn K H v x → x.plain = true → Dp K H v x
  | _, _, .non, _ => .non
  | _, _, .bl b, _ => .bl b
  | _, _, .int i, _ => .int i
  | _, _, .str x _, _ => .str x
  | _, _, .lst h hs, p => .lst (.inl (.inl h)) (dn_dpA hs (by simpa [PyData.plain] using p))
  | _, _, .tup h hs, p => .tup h.sq (dn_dpA hs (by simpa [PyData.plain] using p))
  | _, _, .dct _ _, p => by simp [PyData.plain] at p
theorem dn_dpA : ∀ {vs : List V} {xs : List Dt}, DnAll K H vs xs → PyData.plainAll xs = true → DpAll K H vs xs
  | _, _, .nil, _ => .nil
  | _, _, .cons h hs, p => by
    simp only [PyData.plainAll, Bool.and_eq_true] at p
    exact .cons (dn_dp h p.1) (dn_dpA hs p.2)
end
end
def d2 (env : Env) (a b : A) : Option (Dt × Dt) := match a.val env, b.val env with
  | some x, some y => some (x, y)
  | _, _ => none
open Classical in
noncomputable def addA : Env → A → A → Rs A := fun env a b => match d2 env a b with
  | some (.int i, .int j) => .ok (.d (.int (i + j))) env
  | some (.str x, .str y) => if x.length + y.length ≤ sizeLine then .ok (.d (.str (x ++ y))) env else .bad
  | some (.tuple xs, .tuple ys) => if xs.length + ys.length ≤ sizeLine then .ok (.d (.tuple (xs ++ ys))) env else .bad
  | some (.list _, .list _) => (match a.lstT? env, b.lstT? env with
    | some xs, some ys => if xs.length + ys.length ≤ sizeLine then .ok (.own (.l (xs ++ ys))) env else .bad
    | _, _ => .bad)
  | _ => .bad
open Classical in
noncomputable def mulA : Env → A → A → Rs A := fun env a b => match d2 env a b with
  | some (.int i, .int j) => if CMul i j then .ok (.d (.int (i * j))) env else .bad
  | some (.str x, .int n) => if MulOk x n ∧ (Txt.mul x n).length ≤ sizeLine then .ok (.d (.str (Txt.mul x n))) env else .bad
  | some (.list _, .int n) => (match a.lstT? env with
    | some xs => if -(2 ^ 63) ≤ n ∧ n < 2 ^ 63 ∧ xs.length * n.toNat ≤ sizeLine then .ok (.own (.l (List.replicate n.toNat xs).flatten)) env else .bad
    | none => .bad)
  | _ => .bad
def subD : Dt → Dt → Option Dt
  | .int i, .int j => some (.int (i - j))
  | _, _ => none
def divD : Dt → Dt → Option Dt
  | .int i, .int j => if 0 < j ∧ j < 1073741824 then some (.int (i / j)) else none
  | _, _ => none
def modD : Dt → Dt → Option Dt
  | .int i, .int j => if 0 < j then some (.int (i % j)) else none
  | _, _ => none
def powD : Dt → Dt → Option Dt
  | .int i, .int j => if 0 ≤ j ∧ j ≤ 1000000 ∧ i.natAbs < 2 ^ 64 then some (.int (i ^ j.toNat)) else none
  | _, _ => none
def negD : Dt → Option Dt
  | .int i => some (.int (-i))
  | _ => none
def ltD : Dt → Dt → Option Dt
  | .int i, .int j => some (.bool (decide (i < j)))
  | .str x, .str y => some (.bool (decide (x.cps.toList < y.cps.toList)))
  | _, _ => none
def leD : Dt → Dt → Option Dt
  | .int i, .int j => some (.bool (decide (i ≤ j)))
  | _, _ => none
def gtD : Dt → Dt → Option Dt
  | .int i, .int j => some (.bool (decide (j < i)))
  | _, _ => none
def geD : Dt → Dt → Option Dt
  | .int i, .int j => some (.bool (decide (j ≤ i)))
  | _, _ => none
def emptyEq : Dt → Dt → Bool
  | .list _, .list [] => true
  | .tuple _, .tuple [] => true
  | _, _ => false
def okEq (x y : Dt) : Bool := (x.plain && y.plain && decide (min x.depth y.depth ≤ 190)) || emptyEq x y
def eqD (x y : Dt) : Option Dt := if okEq x y = true then some (.bool (PyData.eqv x y)) else none
def neD (x y : Dt) : Option Dt := if okEq x y = true then some (.bool (!PyData.eqv x y)) else none
def isNoneD : Dt → Bool
  | .none => true
  | _ => false
def isD (x y : Dt) : Option Dt := match y with
  | .none => some (.bool (isNoneD x))
  | _ => none
def notD (x y : Dt) : Option Dt := match y with
  | .none => some (.bool (!isNoneD x))
  | _ => none
/-- the items of a list or tuple -/
def seqD : Dt → Option (List Dt)
  | .list xs => some xs
  | .tuple xs => some xs
  | _ => none
def strsD : List Dt → Option (List Str)
  | [] => some []
  | .str s :: r => (strsD r).map (s :: ·)
  | _ => none
def inD (neg : Bool) (x y : Dt) : Option Dt := match y with
  | .str z => match x with
    | .str c => if c.cps.size = 1 then some (.bool (if neg then !decide (c.cps.toList.headD 0 ∈ z.cps.toList) else decide (c.cps.toList.headD 0 ∈ z.cps.toList))) else none
    | _ => none
  | y => match seqD y with
    | some ds => if x.plain = true ∧ PyData.plainAll ds = true ∧ min (PyData.depthAll ds) x.depth ≤ 190 then some (.bool (if neg then !(ds.any fun z => PyData.eqv z x) else ds.any fun z => PyData.eqv z x)) else
      (match strsD ds with
      | some ss => some (.bool (if neg then !(ss.any fun s => PyData.eqv (.str s) x) else ss.any fun s => PyData.eqv (.str s) x))
      | none => none)
    | none => none
section
variable {K : KW} {B : Bs} {W : WX}
theorem val_tup {env : Env} {a : A} {xs : List Dt} (h : a.val env = some (.tuple xs)) : a = .d (.tuple xs) := by
  have g2 : (a.ow env).bind Ow.dt = some (.tuple xs) → a = .d (.tuple xs) := fun h => by
    cases e : a.ow env with
    | none => rw [e] at h; cases h
    | some o => rw [e] at h; cases o <;> cases h
  cases a with
  | d x => cases h; rfl
  | own o => exact g2 h
  | io o => exact g2 h
  | rf i p => exact g2 h
  | sc n => exact g2 h
  | q n => exact g2 h
  | lk n => cases h
  | xr n => exact g2 h
theorem d2_some {env : Env} {a b : A} {x y : Dt} (h : d2 env a b = some (x, y)) : a.val env = some x ∧ b.val env = some y := by
  unfold d2 at h
  cases e1 : a.val env with
  | none => rw [e1] at h; cases h
  | some x' =>
    cases e2 : b.val env with
    | none => rw [e1, e2] at h; cases h
    | some y' => rw [e1, e2] at h; cases h; exact ⟨rfl, rfl⟩
theorem so_add : SO2 K B W (rAddU K) addA := by
  intro σ env ts te H Q v u a b R p
  obtain ⟨F, O, R⟩ := R
  unfold addA at p
  split at p
  · rename_i i j e
    obtain ⟨e1, e2⟩ := d2_some e
    have c1 := cell_val R R.tm.2.1 e1
    have c2 := cell_val R R.tm.1 e2
    cases c1
    cases c2
    exact .inl ⟨i, j, rfl, rfl, p _ H (R.pop.pop.pushD (.int _))⟩
  · rename_i x y e
    obtain ⟨e1, e2⟩ := d2_some e
    split at p
    · rename_i hl
      have c1 := cell_val R R.tm.2.1 e1
      have c2 := cell_val R R.tm.1 e2
      cases c1
      cases c2
      refine .inr (.inl ⟨x, y, rfl, rfl, hl, p _ H (R.pop.pop.pushD (.str _ ?_))⟩)
      rw [Str.length_append]; exact hl
    · exact False.elim p
  · rename_i xs ys e
    obtain ⟨e1, e2⟩ := d2_some e
    split at p
    · rename_i hl
      have a1 := val_tup e1
      have a2 := val_tup e2
      subst a1
      subst a2
      obtain ⟨q1, vs, rfl, t1, d1⟩ := dn_tup (show Dn K F v (.tuple xs) from R.tm.2.1)
      obtain ⟨q2, us, rfl, t2, d2⟩ := dn_tup (show Dn K F u (.tuple ys) from R.tm.1)
      refine .inr (.inr (.inl ⟨q1, q2, vs, us, rfl, rfl, Same.sqT' R.sf t1.sq, Same.sqT' R.sf t2.sq, by rw [d1.length, d2.length]; exact hl, fun z => ?_, fun _ z => ?_, fun _ _ r ob nr hob => ?_⟩))
      · subst z
        cases d1
        exact p _ H (R.pop.pop.pushD (.tup t2 d2))
      · subst z
        cases d2
        rw [List.append_nil] at p
        exact p _ H (R.pop.pop.pushD (.tup t1 d1))
      · exact p _ _ (R.pop.pop.pushT nr hob (d1.app d2))
    · exact False.elim p
  · rename_i e
    cases e1 : a.lstT? env with
    | none => simp only [e1] at p; exact False.elim p
    | some xs =>
      cases e2 : b.lstT? env with
      | none => simp only [e1, e2] at p; exact False.elim p
      | some ys =>
        simp only [e1, e2] at p
        split at p
        · rename_i hl
          obtain ⟨q1, vs, rfl, h1, d1⟩ := cell_lstT R R.tm.2.1 e1
          obtain ⟨q2, us, rfl, h2, d2⟩ := cell_lstT R R.tm.1 e2
          exact .inr (.inr (.inr ⟨q1, q2, vs, us, rfl, rfl, h1, h2, by rw [d1.length, d2.length]; exact hl, fun r nr => p _ _ (R.pop.pop.pushL nr (d1.app d2))⟩))
        · exact False.elim p
  · exact False.elim p
theorem dn_rep {F : Hp} {vs : List V} {xs : List Dt} (d : DnAll K F vs xs) : ∀ n : Nat, DnAll K F (List.replicate n vs).flatten (List.replicate n xs).flatten
  | 0 => .nil
  | n + 1 => by
    rw [List.replicate_succ, List.replicate_succ, List.flatten_cons, List.flatten_cons]
    exact d.app (dn_rep d n)
theorem so_mul : SO2 K B W rMulU mulA := by
  intro σ env ts te H Q v u a b R p
  obtain ⟨F, O, R⟩ := R
  unfold mulA at p
  split at p
  · rename_i i j e
    obtain ⟨e1, e2⟩ := d2_some e
    have c1 := cell_val R R.tm.2.1 e1
    have c2 := cell_val R R.tm.1 e2
    cases c1
    cases c2
    split at p
    · rename_i hl
      exact .inl ⟨i, j, rfl, rfl, hl, p _ H (R.pop.pop.pushD (.int _))⟩
    · exact False.elim p
  · rename_i x n e
    obtain ⟨e1, e2⟩ := d2_some e
    have c1 := cell_val R R.tm.2.1 e1
    have c2 := cell_val R R.tm.1 e2
    cases c1
    cases c2
    split at p
    · rename_i hl
      exact .inr (.inl ⟨x, n, rfl, rfl, hl.1, p _ H (R.pop.pop.pushD (.str _ hl.2))⟩)
    · exact False.elim p
  · rename_i xs0 n e
    obtain ⟨e1, e2⟩ := d2_some e
    have c2 := cell_val R R.tm.1 e2
    cases c2
    cases e3 : a.lstT? env with
    | none => simp only [e3] at p; exact False.elim p
    | some xs =>
      simp only [e3] at p
      split at p
      · rename_i hl
        obtain ⟨q1, vs, rfl, h1, d1⟩ := cell_lstT R R.tm.2.1 e3
        exact .inr (.inr ⟨q1, n, vs, rfl, rfl, h1, hl.1, hl.2.1, by rw [d1.length]; exact hl.2.2, fun r nr => p _ _ (R.pop.pop.pushL nr (dn_rep d1 _))⟩)
      · exact False.elim p
  · exact False.elim p
theorem os_sub : OpS K rSubI subD := by
  intro H x y dx dy z Q h1 h2 h
  cases h1 <;> cases h2 <;> cases h
  exact ⟨rfl, fun q => ⟨_, _, rfl, rfl, q⟩⟩
theorem os_div : OpS K rDivI divD := by
  intro H x y dx dy z Q h1 h2 h
  unfold divD at h
  split at h
  · split at h
    · rename_i c
      cases h1
      cases h2
      cases h
      exact ⟨rfl, fun q => ⟨_, _, rfl, rfl, c, q⟩⟩
    · cases h
  · cases h
theorem os_mod : OpS K rModI modD := by
  intro H x y dx dy z Q h1 h2 h
  unfold modD at h
  split at h
  · split at h
    · rename_i c
      cases h1
      cases h2
      cases h
      exact ⟨rfl, fun q => ⟨_, _, rfl, rfl, c, q⟩⟩
    · cases h
  · cases h
theorem os_pow : OpS K rPowI powD := by
  intro H x y dx dy z Q h1 h2 h
  unfold powD at h
  split at h
  · split at h
    · rename_i c
      cases h1
      cases h2
      cases h
      exact ⟨rfl, fun q => ⟨_, _, rfl, rfl, c, q⟩⟩
    · cases h
  · cases h
theorem os_lt : OpS K rLtU ltD := by
  intro H x y dx dy z Q h1 h2 h
  cases h1 <;> cases h2 <;> cases h
  · exact ⟨rfl, fun q => .inl ⟨_, _, rfl, rfl, q⟩⟩
  · exact ⟨rfl, fun q => .inr ⟨_, _, rfl, rfl, q⟩⟩
theorem os_le : OpS K rLeI leD := by
  intro H x y dx dy z Q h1 h2 h
  cases h1 <;> cases h2 <;> cases h
  exact ⟨rfl, fun q => ⟨_, _, rfl, rfl, q⟩⟩
theorem os_gt : OpS K rGtI gtD := by
  intro H x y dx dy z Q h1 h2 h
  cases h1 <;> cases h2 <;> cases h
  exact ⟨rfl, fun q => ⟨_, _, rfl, rfl, q⟩⟩
theorem os_ge : OpS K rGeI geD := by
  intro H x y dx dy z Q h1 h2 h
  cases h1 <;> cases h2 <;> cases h
  exact ⟨rfl, fun q => ⟨_, _, rfl, rfl, q⟩⟩
theorem eqvAll_nil : ∀ xs : List Dt, PyData.eqvAll xs [] = xs.isEmpty
  | [] => by rw [PyData.eqvAll]; rfl
  | x :: xs => by rw [PyData.eqvAll]; rfl
theorem eq_empty {H : Hp} {x y : V} {dx dy : Dt} (h1 : Dn K H x dx) (h2 : Dn K H y dy) (h : emptyEq dx dy = true) :
    ∃ a b xs, x = .ref a ∧ y = .ref b ∧ ((SqL K H a xs ∧ SqL K H b []) ∨ (SqT K H a xs ∧ SqT K H b [])) ∧ PyData.eqv dx dy = xs.isEmpty := by
  cases h1 with
  | lst g1 d1 =>
    cases h2 with
    | lst g2 d2 =>
      cases d2 with
      | cons _ _ => cases h
      | nil =>
        refine ⟨_, _, _, rfl, rfl, .inl ⟨.inl (.inl g1), .inl (.inl g2)⟩, ?_⟩
        rw [PyData.eqv, eqvAll_nil]
        cases d1 <;> rfl
    | _ => cases h
  | tup g1 d1 =>
    cases h2 with
    | tup g2 d2 =>
      cases d2 with
      | cons _ _ => cases h
      | nil =>
        refine ⟨_, _, _, rfl, rfl, .inr ⟨g1.sq, g2.sq⟩, ?_⟩
        rw [PyData.eqv, eqvAll_nil]
        cases d1 <;> rfl
    | _ => cases h
  | _ => cases h
theorem os_eq : OpS K (rEqU K) eqD := by
  intro H x y dx dy z Q h1 h2 h
  unfold eqD at h
  split at h
  · rename_i c
    cases h
    refine ⟨rfl, fun q => ?_⟩
    unfold okEq at c
    rw [Bool.or_eq_true, Bool.and_eq_true, Bool.and_eq_true, decide_eq_true_eq] at c
    rcases c with ⟨⟨p1, p2⟩, d⟩ | c
    · exact .inl ⟨dx, dy, dn_dp h1 p1, dn_dp h2 p2, p1, p2, d, q⟩
    · obtain ⟨a, b, xs, e1, e2, e3, e4⟩ := eq_empty h1 h2 c
      exact .inr ⟨a, b, xs, e1, e2, e3, by rw [← e4]; exact q⟩
  · cases h
theorem os_ne : OpS K (rNeU K) neD := by
  intro H x y dx dy z Q h1 h2 h
  unfold neD at h
  split at h
  · rename_i c
    cases h
    refine ⟨rfl, fun q => ?_⟩
    unfold okEq at c
    rw [Bool.or_eq_true, Bool.and_eq_true, Bool.and_eq_true, decide_eq_true_eq] at c
    rcases c with ⟨⟨p1, p2⟩, d⟩ | c
    · exact .inl ⟨dx, dy, dn_dp h1 p1, dn_dp h2 p2, p1, p2, d, q⟩
    · obtain ⟨a, b, xs, e1, e2, e3, e4⟩ := eq_empty h1 h2 c
      exact .inr ⟨a, b, xs, e1, e2, e3, by rw [← e4]; exact q⟩
  · cases h
theorem non_dec {H : Hp} {x : V} {dx : Dt} (h : Dn K H x dx) : decide (x = .non) = isNoneD dx := by
  cases h <;> rfl
theorem os_isnot : OpS K rNotN notD := by
  intro H x y dx dy z Q h1 h2 h
  cases h2 <;> cases h
  exact ⟨rfl, fun q => ⟨rfl, by rw [non_dec h1]; exact q⟩⟩
theorem strsD_dn {H : Hp} : ∀ {vs : List V} {ds : List Dt} {ss : List Str}, DnAll K H vs ds → strsD ds = some ss → vs = ss.map V.str
  | _, [], _, .nil, h => by cases h; rfl
  | _, d :: ds, ss, .cons h1 hs, h => by
    cases h1 with
    | str s hl =>
      unfold strsD at h
      cases q : strsD ds with
      | none => rw [q] at h; cases h
      | some r =>
        rw [q] at h
        cases h
        rw [strsD_dn hs q]
        rfl
    | _ => cases h
theorem inA_eqv {H : Hp} {x : V} {dx : Dt} (h : Dn K H x dx) : ∀ ss : List Str, inA x ss = ss.any fun s => PyData.eqv (.str s) dx
  | [] => by cases h <;> rfl
  | s :: ss => by
    have ih := inA_eqv h ss
    cases h with
    | str y hl =>
      show (s :: ss).contains y = ((PyData.eqv (.str s) (.str y)) || ss.any fun s => PyData.eqv (.str s) (.str y))
      rw [← ih]
      show (s :: ss).contains y = ((PyData.eqv (.str s) (.str y)) || ss.contains y)
      rw [List.contains_cons, PyData.eqv]
      congr 1
      rw [Bool.eq_iff_iff, beq_iff_eq, beq_iff_eq]
      exact eq_comm
    | _ => simpa [inA, PyData.eqv] using ih
theorem dn_av {H : Hp} {x : V} {dx : Dt} (h : Dn K H x dx) : AV K H x := by
  cases h with
  | non => exact .non
  | bl b => exact .bl b
  | int i => exact .int i
  | str x h => exact .str x h
  | lst h hs => exact .lst (.inl (.inl h))
  | tup h hs => exact .tup h.sq
  | dct h hs => exact .dct h
theorem os_in (neg : Bool) : OpS K (rInU K neg) (inD neg) := by
  intro H x y dx dy z Q h1 h2 h
  have seq : ∀ ds, (∃ (p : Addr) (vs : List V), y = .ref p ∧ (SqL K H p vs ∨ SqT K H p vs) ∧ DnAll K H vs ds) → (PyData.plainAll ds = true → (Dp K H y (.list ds) ∨ Dp K H y (.tuple ds))) →
      (if dx.plain = true ∧ PyData.plainAll ds = true ∧ min (PyData.depthAll ds) dx.depth ≤ 190 then some (PyData.bool (if neg then !(ds.any fun z => PyData.eqv z dx) else ds.any fun z => PyData.eqv z dx)) else
      (match strsD ds with
      | some ss => some (.bool (if neg then !(ss.any fun s => PyData.eqv (.str s) dx) else ss.any fun s => PyData.eqv (.str s) dx))
      | none => none)) = some z → flatD z = true ∧ (Q (vOf z) H → rInU K neg x y H Q) := by
    intro ds ⟨p, vs, e, sq, da⟩ hd h
    split at h
    · rename_i c
      cases h
      exact ⟨rfl, fun q => .inl ⟨dx, ds, dn_dp h1 c.1, hd c.2.1, c.1, c.2.1, c.2.2, q⟩⟩
    · cases q : strsD ds with
      | none => rw [q] at h; cases h
      | some ss =>
        rw [q] at h
        cases h
        refine ⟨rfl, fun g => .inr (.inl ⟨p, ss, e, ?_, dn_av h1, ?_⟩)⟩
        · rw [← strsD_dn da q]; exact sq
        · rw [inA_eqv h1]; exact g
  cases h2 with
  | str s hl =>
    cases h1 with
    | str c hc =>
      unfold inD at h
      simp only at h
      split at h
      · rename_i c1
        cases h
        refine ⟨rfl, fun g => .inr (.inr ?_)⟩
        have ec : c = ⟨#[c.cps.toList.headD 0]⟩ := by
          obtain ⟨arr⟩ := c
          obtain ⟨l⟩ := arr
          match l, c1 with
          | [x], _ => rfl
        cases neg with
        | false => exact ⟨_, s, by rw [← ec], rfl, g⟩
        | true => exact ⟨_, s, by rw [← ec], rfl, g⟩
      · cases h
    | _ => cases h
  | lst g d => exact seq _ ⟨_, _, rfl, .inl (.inl (.inl g)), d⟩ (fun p => .inl (.lst (.inl (.inl g)) (dn_dpA d p))) h
  | tup g d => exact seq _ ⟨_, _, rfl, .inr g.sq, d⟩ (fun p => .inr (.tup g.sq (dn_dpA d p))) h
  | _ => cases h
end
end Tw

namespace Tw
open PySem PySem.Spec PyProof.Rows L2
/-! ### displays -/
def dAll : List A → Option (List Dt)
  | [] => some []
  | .d x :: as => (dAll as).map (x :: ·)
  | _ => none
def mTup (m : MA) : ME := fun env te => (m env te).bind fun as e => match dAll as with
  | some xs => if xs.length ≤ sizeLine then .ok (.d (.tuple xs)) e else .bad
  | none => .bad
def mLst (m : MA) : ME := fun env te => (m env te).bind fun as e => match dAll as with
  | some xs => if xs.length ≤ sizeLine then .ok (.own (.l xs)) e else .bad
  | none => .bad
/-! ### subscripts -/
def ixA : Env → A → A → Rs A := fun env a b => match b.val env with
  | some (.int i) => (match a.tup? with
    | some xs => (match atI xs i with
      | some x => .ok (.d x) env
      | none => .bad)
    | none => match a.lst? env with
      | some xs => (match atI xs i with
        | some x => .ok (.d x) env
        | none => .bad)
      | none => match a.val env with
        | some (.str z) => (match atI z.cps.toList i with
          | some c => .ok (.d (.str ⟨#[c]⟩)) env
          | none => .bad)
        | _ => match a with
          | .rf j none => (match owAt env j with
            | some (.ll xss) => (match ixN xss.length i with
              | some n => .ok (.rf j (some (.inl n))) env
              | none => .bad)
            | _ => .bad)
          | _ => .bad)
  | _ => .bad
abbrev MO := Env → List A → Rs (Option Int)
def mNoPart : MO := fun env _ => .ok none env
def mPart (m : ME) : MO := fun env te => (m env te).bind fun a e => match a.val e with
  | some (.int i) => .ok (some i) e
  | _ => .bad
def cutD {α : Type} (xs : List α) (lo hi : Option Int) : List α := (xs.drop (HT.sIx xs.length 0 lo)).take (HT.sIx xs.length xs.length hi - HT.sIx xs.length 0 lo)
def slA (env : Env) (a : A) (lo hi : Option Int) : Rs A := match a with
  | .d (.tuple xs) => .ok (.d (.tuple (cutD xs lo hi))) env
  | .d (.str z) => if (cutS z lo hi).length ≤ sizeLine then .ok (.d (.str (cutS z lo hi))) env else .bad
  | a => match a.lst? env with
    | some xs => .ok (.own (.l (cutD xs lo hi))) env
    | none => .bad
def mSl (m : ME) (lo hi : MO) : ME := fun env te => (m env te).bind fun a e1 => (lo e1 (a :: te)).bind fun l e2 => (hi e2 (a :: te)).bind fun u e3 => slA e3 a l u
def revA (env : Env) (a : A) : Rs A := match a with
  | .d (.tuple xs) => .ok (.d (.tuple xs.reverse)) env
  | _ => .bad
def revLA (env : Env) (a : A) : Rs A := match a.lst? env with
  | some xs => .ok (.own (.l xs.reverse)) env
  | none => .bad
/-! ### built-ins -/
def one (f : Env → A → Rs A) : Env → List A → Rs A := fun env as => match as with
  | [a] => f env a
  | _ => .bad
def lenD : Dt → Option Nat
  | .str z => some z.length
  | .list xs => some xs.length
  | .tuple xs => some xs.length
  | .dict kvs => some kvs.length
  | _ => none
def lenA : Env → A → Rs A := fun env a => match a.lst? env with
  | some xs => .ok (.d (.int xs.length)) env
  | none => match a.val env with
    | some x => (match lenD x with
      | some n => .ok (.d (.int n)) env
      | none => .bad)
    | none => .bad
def tupA : Env → A → Rs A := fun env a => match a with
  | .d (.tuple xs) => .ok (.d (.tuple xs)) env
  | a => match a.lst? env with
    | some xs => .ok (.d (.tuple xs)) env
    | none => .bad
def lstA : Env → A → Rs A := fun env a => match a.tup? with
  | some xs => .ok (.own (.l xs)) env
  | none => match a.lst? env with
    | some xs => .ok (.own (.l xs)) env
    | none => .bad
def boolsD : List Dt → Option (List Bool)
  | [] => some []
  | .bool b :: r => (boolsD r).map (b :: ·)
  | _ => none
def allA : Env → A → Rs A := fun env a => match (a.lst? env).bind boolsD with
  | some bs => .ok (.d (.bool (bs.all id))) env
  | none => .bad
def anyA : Env → A → Rs A := fun env a => match (a.lst? env).bind boolsD with
  | some bs => .ok (.d (.bool (bs.any id))) env
  | none => .bad
def tyD : Dt → String
  | .none => "NoneType"
  | .bool _ => "bool"
  | .int _ => "int"
  | .str _ => "str"
  | .list _ => "list"
  | .tuple _ => "tuple"
  | .dict _ => "dict"
def mIsi (T : String) (m : ME) : ME := fun env te => (m env te).bind fun a e => match a.val e with
  | some x => (match kitB (tyD x) T with
    | some b => .ok (.d (.bool b)) e
    | none => .bad)
  | none => .bad
def absD : Dt → Option Dt
  | .int i => some (.int (if i < 0 then -i else i))
  | _ => none
def intD : Dt → Option Dt
  | .int i => some (.int i)
  | .bool b => some (.int (if b then 1 else 0))
  | _ => none
def min2A : Env → List A → Rs A := fun env as => match as with
  | [.d (.int i), .d (.int j)] => .ok (.d (.int (if j < i then j else i))) env
  | _ => .bad
def max2A : Env → List A → Rs A := fun env as => match as with
  | [.d (.int i), .d (.int j)] => .ok (.d (.int (if j > i then j else i))) env
  | _ => .bad
def joinS (s : Str) (env : Env) (b : A) : Rs A := match ((match b.tup? with | some xs => some xs | none => b.lst? env)).bind strsD with
  | some ys => if (ys.map (·.length)).sum + ys.length * s.length ≤ 16777216 ∧ (Txt.join s ys).length ≤ sizeLine then .ok (.d (.str (Txt.join s ys))) env else .bad
  | none => .bad
def mJoin (ma mb : ME) : ME := fun env te => (ma env te).bind fun a e => match a with
  | .d (.str s) => (mb e (.d (.str s) :: te)).bind fun b e2 => joinS s e2 b
  | _ => .bad
section
variable {K : KW} {B : Bs} {W : WX}
theorem dAll_sim : ∀ {as : List A} {xs : List Dt}, dAll as = some xs → ∀ a ∈ as, simA a = true
  | [], _, _, _, h => nomatch h
  | .d x :: as, xs, h, a, hm => by
    unfold dAll at h
    cases q : dAll as with
    | none => rw [q] at h; cases h
    | some ys =>
      rcases List.mem_cons.mp hm with rfl | hm
      · rfl
      · exact dAll_sim q a hm
  | .own _ :: _, _, h, _, _ => nomatch h
  | .io _ :: _, _, h, _, _ => nomatch h
  | .rf _ _ :: _, _, h, _, _ => nomatch h
  | .sc _ :: _, _, h, _, _ => nomatch h
  | .q _ :: _, _, h, _, _ => nomatch h
  | .lk _ :: _, _, h, _, _ => nomatch h
  | .xr _ :: _, _, h, _, _ => nomatch h
theorem dAll_dn {F H : Hp} {O : Addr → Option Nat} {σ : List (Option V)} : ∀ {vs : List V} {as : List A} {xs : List Dt}, Paired (fun v a => CellO K B F H O σ 0 v a) vs as → dAll as = some xs → DnAll K F vs xs
  | [], [], _, .nil, h => by cases h; exact .nil
  | v :: vs, .d x :: as, xs, .cons c r, h => by
    unfold dAll at h
    cases q : dAll as with
    | none => rw [q] at h; cases h
    | some ys =>
      rw [q] at h
      cases h
      exact .cons c (dAll_dn r q)
  | _ :: _, .own _ :: _, _, .cons _ _, h => nomatch h
  | _ :: _, .io _ :: _, _, .cons _ _, h => nomatch h
  | _ :: _, .rf _ _ :: _, _, .cons _ _, h => nomatch h
  | _ :: _, .sc _ :: _, _, .cons _ _, h => nomatch h
  | _ :: _, .q _ :: _, _, .cons _ _, h => nomatch h
  | _ :: _, .lk _ :: _, _, .cons _ _, h => nomatch h
  | _ :: _, .xr _ :: _, _, .cons _ _, h => nomatch h
theorem args_dn {σ : L2.St} {env : Env} {ts : List V} {te : List A} {H : Hp} {vs : List V} {as : List A} {xs : List Dt} (hl : vs.length = as.length) (R : Rel K B σ env (vs.reverse ++ ts) (as.reverse ++ te) H) (h : dAll as = some xs) :
    ∃ F O, RelF K B F O σ env ts te H ∧ DnAll K F vs xs := by
  obtain ⟨F, O, R⟩ := R
  obtain ⟨O, R, _, pr⟩ := args_cells (by rw [List.length_reverse, List.length_reverse]; exact hl) (fun a ha => dAll_sim h a (List.mem_reverse.mp ha)) R
  have pr := paired_rev pr
  rw [List.reverse_reverse, List.reverse_reverse] at pr
  exact ⟨F, O, R, dAll_dn pr h⟩
theorem se_tup {t : TA} {m : MA} (h : SA K B W t m) : SE K B W (tTupF t) (mTup m) := by
  intro σ env ts te H Q R p
  refine h.thE R p fun as e p vs H1 hl R1 => ?_
  cases q : dAll as with
  | none => simp only [q] at p; exact False.elim p
  | some xs =>
    simp only [q] at p
    split at p
    · rename_i hz
      obtain ⟨F, O, R2, d⟩ := args_dn hl R1 q
      exact ⟨by rw [d.length]; exact hz, fun l ob nl hob => p _ _ (R2.pushT nl hob d)⟩
    · exact False.elim p
theorem se_lst {t : TA} {m : MA} (h : SA K B W t m) : SE K B W (tLst t) (mLst m) := by
  intro σ env ts te H Q R p
  refine h.thE R p fun as e p vs H1 hl R1 => ?_
  cases q : dAll as with
  | none => simp only [q] at p; exact False.elim p
  | some xs =>
    simp only [q] at p
    split at p
    · rename_i hz
      obtain ⟨F, O, R2, d⟩ := args_dn hl R1 q
      exact ⟨by rw [d.length]; exact hz, fun l nl => p _ _ (R2.pushL nl d)⟩
    · exact False.elim p
theorem dn_atI {F : Hp} {vs : List V} {xs : List Dt} {i : Int} {x : Dt} (d : DnAll K F vs xs) (h : atI xs i = some x) : ∃ v, atI vs i = some v ∧ Dn K F v x := by
  unfold atI at h ⊢
  rw [d.length]
  cases q : ixN xs.length i with
  | none => rw [q] at h; cases h
  | some j =>
    rw [q] at h
    obtain ⟨v, hv, dv⟩ := d.get h
    exact ⟨v, hv, dv⟩
theorem so_ix : SO2 K B W (rIx K) ixA := by
  intro σ env ts te H Q v u a b R p
  obtain ⟨F, O, R⟩ := R
  unfold ixA at p
  split at p
  · rename_i i e
    have c2 := cell_val R R.tm.1 e
    cases c2
    cases e1 : a.tup? with
    | some xs =>
      simp only [e1] at p
      cases e2 : atI xs i with
      | none => simp only [e2] at p; exact False.elim p
      | some x =>
        simp only [e2] at p
        obtain ⟨q1, vs, rfl, t1, _, d1⟩ := cell_tup R R.tm.2.1 e1
        obtain ⟨w, hw, dw⟩ := dn_atI d1 e2
        exact .inr (.inl ⟨q1, vs, i, w, rfl, rfl, t1, hw, p _ H (R.pop.pop.pushD dw)⟩)
    | none =>
      simp only [e1] at p
      cases e3 : a.lst? env with
      | some xs =>
        simp only [e3] at p
        cases e2 : atI xs i with
        | none => simp only [e2] at p; exact False.elim p
        | some x =>
          simp only [e2] at p
          obtain ⟨q1, vs, rfl, t1, d1⟩ := cell_lst R R.tm.2.1 e3
          obtain ⟨w, hw, dw⟩ := dn_atI d1 e2
          exact .inl ⟨q1, vs, i, w, rfl, rfl, t1, hw, p _ H (R.pop.pop.pushD dw)⟩
      | none =>
        simp only [e3] at p
        split at p
        · rename_i z e4
          have c1 := cell_val R R.tm.2.1 e4
          cases c1 with
          | str _ hz =>
            cases e2 : atI z.cps.toList i with
            | none => simp only [e2] at p; exact False.elim p
            | some c =>
              simp only [e2] at p
              exact .inr (.inr ⟨z, i, c, rfl, rfl, hz, e2, p _ H (R.pop.pop.pushD (.str _ (by show (1 : Nat) ≤ sizeLine; decide)))⟩)
        · split at p
          · rename_i j _
            cases e5 : owAt env j with
            | none => simp only [e5] at p; exact False.elim p
            | some o =>
              cases o with
              | ll xss =>
                simp only [e5] at p
                cases e6 : ixN xss.length i with
                | none => simp only [e6] at p; exact False.elim p
                | some n =>
                  simp only [e6] at p
                  obtain ⟨w, hw, ew⟩ := id R.tm.2.1
                  have ew : v = w := ew
                  subst ew
                  obtain ⟨q1, vs, rfl, oq, h1, _, _, pr⟩ := R.owAt e5 hw
                  have ln := pr.length
                  have nl : n < vs.length := by
                    rw [ln]
                    unfold ixN at e6
                    split at e6
                    · split at e6
                      · cases e6; omega
                      · cases e6
                    · split at e6
                      · cases e6; omega
                      · cases e6
                  have e7 : atI vs i = some vs[n] := by
                    unfold atI
                    rw [ln, e6]
                    exact List.getElem?_eq_getElem nl
                  have R2 := R.pop.pop
                  refine .inl ⟨q1, vs, i, vs[n], rfl, rfl, .inl (.inl h1), e7, p _ H ⟨F, _, R2.push (a := .rf j (some (.inl n))) ⟨.ref q1, hw, q1, rfl, ?_, .inl ⟨vs, n, rfl, Int.natCast_nonneg n, h1, by simp⟩⟩⟩⟩
                  have jl := (List.getElem?_eq_some_iff.mp hw).1
                  have s1 : ∀ n, j ≠ σ.length + n := fun n => by omega
                  show (if (if O q1 = some (σ.length + (V.ref q1 :: ts).length) then none else O q1) = some (σ.length + ts.length) then none else (if O q1 = some (σ.length + (V.ref q1 :: ts).length) then none else O q1)) = some j
                  rw [oq, if_neg (fun z => s1 _ (Option.some.inj z)), if_neg (fun z => s1 _ (Option.some.inj z))]
              | l _ => simp only [e5] at p; exact False.elim p
              | dc _ => simp only [e5] at p; exact False.elim p
              | dl _ => simp only [e5] at p; exact False.elim p
              | x _ => simp only [e5] at p; exact False.elim p
          · exact False.elim p
  · exact False.elim p
/-! ### slices -/
def PO' (K : KW) (B : Bs) (W : WX) (σ : L2.St) (ts : List V) (te : List A) (Q : Option Int → Hp → Prop) : Rs (Option Int) → Prop
  | .ok b e => ∀ H, Rel K B σ e ts te H → Q b H
  | .ex x e => XPost K B W σ ts te x e
  | .bad => False
def SPo (K : KW) (B : Bs) (W : WX) (t : TO) (m : MO) : Prop := ∀ σ env ts te H Q, Rel K B σ env ts te H → PO' K B W σ ts te Q (m env te) → t σ H Q
theorem so_none : SPo K B W tNoPart mNoPart := fun σ env ts te H Q R p => p H R
theorem so_part {t : TE} {m : ME} (h : SE K B W t m) : SPo K B W (tPart t) (mPart m) := by
  intro σ env ts te H Q R p
  refine h σ env ts te H _ R ?_
  have p : PO' K B W σ ts te Q ((m env te).bind fun a e => match a.val e with | some (.int i) => .ok (some i) e | _ => .bad) := p
  cases q : m env te with
  | ok a e =>
    rw [q] at p
    simp only [Rs.bind_ok] at p
    intro v H' R'
    split at p
    · rename_i i e1
      obtain ⟨F, O, R'⟩ := R'
      have c := cell_val R' R'.tm.1 e1
      cases c
      exact ⟨i, rfl, p H' R'.pop.rel⟩
    · exact False.elim p
  | ex x e => rw [q] at p; exact p
  | bad => rw [q] at p; exact p
theorem DnAll.cut {F : Hp} {vs : List V} {xs : List Dt} (d : DnAll K F vs xs) (lo hi : Option Int) : DnAll K F (cutV vs lo hi) (cutD xs lo hi) := by
  unfold cutV cutD
  rw [d.length]
  exact (d.drop _).take _
theorem sl_ok {σ : L2.St} {env : Env} {ts : List V} {te : List A} {H : Hp} {Q : VK} {v : V} {a : A} {lo hi : Option Int} (R : Rel K B σ env (v :: ts) (a :: te) H) (p : PE' K B W σ ts te Q (slA env a lo hi)) : rSlU K v lo hi H Q := by
  obtain ⟨F, O, R⟩ := R
  have lst : ∀ {a}, RelF K B F O σ env (v :: ts) (a :: te) H → PE' K B W σ ts te Q (match a.lst? env with | some xs => .ok (.own (.l (cutD xs lo hi))) env | none => .bad) → rSlU K v lo hi H Q := fun {a} R p => by
    cases e : a.lst? env with
    | none => rw [e] at p; exact False.elim p
    | some xs =>
      rw [e] at p
      obtain ⟨q1, vs, rfl, t1, d1⟩ := cell_lst R R.tm.1 e
      exact .inr (.inl ⟨q1, vs, rfl, t1, fun r nr => p _ _ (R.pop.pushL nr (d1.cut lo hi))⟩)
  unfold slA at p
  split at p
  · rename_i xs
    obtain ⟨q1, vs, rfl, t1, d1⟩ := dn_tup (show Dn K F v (.tuple xs) from R.tm.1)
    refine .inl ⟨q1, vs, rfl, Same.sqT' R.sf t1.sq, fun z => ?_, fun z r ob nr hob => p _ _ (R.pop.pushT nr hob (d1.cut lo hi))⟩
    have e : cutD xs lo hi = xs := by
      unfold cutD
      rw [← d1.length, z.1, z.2, List.drop_zero, Nat.sub_zero, d1.length]
      exact List.take_of_length_le (Nat.le_refl _)
    rw [e] at p
    exact p _ H (R.pop.pushD (.tup t1 d1))
  · rename_i z
    have c : Dn K F v (.str z) := R.tm.1
    cases c with
    | str _ hz =>
      split at p
      · rename_i hl
        exact .inr (.inr ⟨z, rfl, hz, p _ H (R.pop.pushD (.str _ hl))⟩)
      · exact False.elim p
  · exact lst R p
theorem se_sl {t : TE} {m : ME} {tl th : TO} {ml mh : MO} (h : SE K B W t m) (h1 : SPo K B W tl ml) (h2 : SPo K B W th mh) : SE K B W (tSl (rSlU K) t tl th) (mSl m ml mh) := by
  intro σ env ts te H Q R p
  refine h.thE R p fun a e p v H1 R1 => ?_
  refine h1 σ e (v :: ts) (a :: te) H1 _ R1 ?_
  cases q : ml e (a :: te) with
  | ex x e2 => rw [q] at p; exact XPost.push p v a
  | bad => rw [q] at p; exact p
  | ok l e2 =>
    rw [q] at p
    intro H2 R2
    refine h2 σ e2 (v :: ts) (a :: te) H2 _ R2 ?_
    have p : PE' K B W σ ts te Q ((mh e2 (a :: te)).bind fun u e3 => slA e3 a l u) := p
    cases q2 : mh e2 (a :: te) with
    | ex x e3 => rw [q2] at p; exact XPost.push p v a
    | bad => rw [q2] at p; exact p
    | ok u e3 => rw [q2] at p; intro H3 R3; exact sl_ok R3 p
/-! ### built-ins of one argument -/
theorem soa_one {r : List V → Hp → VK → Prop} {f : Env → A → Rs A} (h : SO1 K B W (fun v => r [v]) f) : SOA K B W r (one f) := by
  intro σ env ts te H Q vs as hl R p
  match vs, as, hl, p, R with
  | [v], [a], _, p, R => exact h σ env ts te H Q v a R p
  | [], [], _, p, _ => exact False.elim p
  | _ :: _ :: _, _ :: _ :: _, _, p, _ => exact False.elim p
theorem so1_len : SO1 K B W (fun v => rLenU K [v]) lenA := by
  intro σ env ts te H Q v a R p
  obtain ⟨F, O, R⟩ := R
  unfold lenA at p
  cases e : a.lst? env with
  | some xs =>
    simp only [e] at p
    obtain ⟨q1, vs, rfl, t1, d1⟩ := cell_lst R R.tm.1 e
    exact .inl ⟨_, xs.length, rfl, .inl ⟨vs, t1, d1.length.symm⟩, p _ H (R.pop.pushD (.int _))⟩
  | none =>
    simp only [e] at p
    cases e2 : a.val env with
    | none => simp only [e2] at p; exact False.elim p
    | some x =>
      simp only [e2] at p
      cases e3 : lenD x with
      | none => simp only [e3] at p; exact False.elim p
      | some n =>
        simp only [e3] at p
        have c := cell_val R R.tm.1 e2
        have q := p _ H (R.pop.pushD (.int _))
        cases c with
        | str z hz => cases e3; exact .inl ⟨_, _, rfl, ⟨hz, rfl⟩, q⟩
        | lst h d => cases e3; exact .inl ⟨_, _, rfl, .inl ⟨_, .inl (.inl h), d.length.symm⟩, q⟩
        | tup h d => cases e3; exact .inl ⟨_, _, rfl, .inr ⟨_, h.sq, d.length.symm⟩, q⟩
        | dct h d =>
          cases e3
          refine .inr ⟨_, _, rfl, h, ?_⟩
          have l : ∀ {kvs : List (Key × V)} {ds : List (Dt × Dt)}, DnKs K H kvs ds → kvs.length = ds.length := by
            intro kvs
            induction kvs with
            | nil => intro ds d; cases d; rfl
            | cons k r ih => intro ds d; cases d with
              | cons _ d => exact congrArg (· + 1) (ih d)
          rw [l d]
          exact q
        | _ => cases e3
theorem so1_tup : SO1 K B W (fun v => rTupOfF K [v]) tupA := by
  intro σ env ts te H Q v a R p
  obtain ⟨F, O, R⟩ := R
  unfold tupA at p
  split at p
  · rename_i xs
    obtain ⟨q1, vs, rfl, t1, d1⟩ := dn_tup (show Dn K F v (.tuple xs) from R.tm.1)
    exact ⟨q1, vs, rfl, .inr ⟨Same.sqT' R.sf t1.sq, p _ H (R.pop.pushD (.tup t1 d1))⟩⟩
  · split at p
    · rename_i xs e
      obtain ⟨q1, vs, rfl, t1, d1⟩ := cell_lst R R.tm.1 e
      exact ⟨q1, vs, rfl, .inl ⟨t1, fun r ob nr hob => p _ _ (R.pop.pushT nr hob d1)⟩⟩
    · exact False.elim p
theorem boolsD_dn {F : Hp} : ∀ {vs : List V} {ds : List Dt} {bs : List Bool}, DnAll K F vs ds → boolsD ds = some bs → vs = bs.map V.bl
  | _, [], _, .nil, h => by cases h; rfl
  | _, d :: ds, bs, .cons h1 hs, h => by
    cases h1 with
    | bl s =>
      unfold boolsD at h
      cases q : boolsD ds with
      | none => rw [q] at h; cases h
      | some r =>
        rw [q] at h
        cases h
        rw [boolsD_dn hs q]
        rfl
    | _ => cases h
theorem so1_all : SO1 K B W (fun v => rAll K [v]) allA := by
  intro σ env ts te H Q v a R p
  obtain ⟨F, O, R⟩ := R
  unfold allA at p
  cases e : a.lst? env with
  | none => simp only [e, Option.bind_none] at p; exact False.elim p
  | some xs =>
    cases e2 : boolsD xs with
    | none => simp only [e, Option.bind_some, e2] at p; exact False.elim p
    | some bs =>
      simp only [e, Option.bind_some, e2] at p
      obtain ⟨q1, vs, rfl, t1, d1⟩ := cell_lst R R.tm.1 e
      exact ⟨q1, bs, rfl, by rw [← boolsD_dn d1 e2]; exact t1, p _ H (R.pop.pushD (.bl _))⟩
theorem dn_ty {H : Hp} {v : V} {x : Dt} (h : Dn K H v x) : TyX K H v (.type (tyD x)) := by
  cases h with
  | non => exact .base .non
  | bl b => exact .base (.bl b)
  | int i => exact .base (.int i)
  | str x _ => exact .base (.str x)
  | lst h _ => exact .base (.lst h)
  | tup h _ =>
    rcases h with ⟨ob, h, _⟩ | ⟨o, its, n, h1, h2, _⟩
    · exact .fTuple h
    · exact .kTuple h1 h2
  | dct h _ =>
    rcases h with h | ⟨o, h⟩
    · exact .base (.dK h)
    · exact .fDict h
theorem se_isi {T : String} {t : TE} {m : ME} (h : SE K B W t m) : SE K B W (tCB (rIsi K) (tCons t (tCons (tC (.ty T)) tNil))) (mIsi T m) := by
  intro σ env ts te H Q R p
  refine h.thE R p fun a e p v H1 R1 => ?_
  obtain ⟨F, O, R1⟩ := R1
  cases e1 : a.val e with
  | none => simp only [e1] at p; exact False.elim p
  | some x =>
    simp only [e1] at p
    cases e2 : kitB (tyD x) T with
    | none => simp only [e2] at p; exact False.elim p
    | some b =>
      simp only [e2] at p
      exact ⟨v, .ty T, _, _, b, rfl, .ty T, dn_ty (cell_val R1 R1.tm.1 e1), kit_ty e2, p _ H1 (R1.pop.pushD (.bl _))⟩
theorem us_abs : UnS K (fun v => rAbs [v]) absD := by
  intro H x dx z Q h1 h
  cases h1 <;> cases h
  exact ⟨rfl, fun q => ⟨_, rfl, q⟩⟩
theorem us_int : UnS K (fun v => rInt1 [v]) intD := by
  intro H x dx z Q h1 h
  cases h1 <;> cases h
  · exact ⟨rfl, fun q => .inr ⟨_, rfl, q⟩⟩
  · exact ⟨rfl, fun q => .inl ⟨_, rfl, q⟩⟩
theorem se_join {ta tb : TE} {ma mb : ME} (ha : SE K B W ta ma) (hb : SE K B W tb mb) : SE K B W (tM1 (rJoin K) ta tb) (mJoin ma mb) := by
  intro σ env ts te H Q R p
  refine ha.thE R p fun a e p v H1 R1 => ?_
  split at p
  · rename_i s
    obtain ⟨F, O, R1⟩ := R1
    have c : Dn K F v (.str s) := R1.tm.1
    cases c with
    | str _ hs =>
      refine ⟨⟨s, rfl⟩, ?_⟩
      refine hb σ e _ _ H1 _ R1.rel ?_
      cases q : mb e (.d (.str s) :: te) with
      | ex x e2 => rw [q] at p; exact XPost.push p _ _
      | bad => rw [q] at p; exact p
      | ok b e2 =>
        rw [q] at p
        rintro u H2 ⟨F2, O2, R2⟩
        simp only [Rs.bind_ok] at p
        unfold joinS at p
        have key : ∀ xs, (∃ q1 vs, u = .ref q1 ∧ (SqL K H2 q1 vs ∨ SqT K H2 q1 vs) ∧ DnAll K F2 vs xs) → PE' K B W σ ts te Q (match (some xs).bind strsD with
          | some ys => if (ys.map (·.length)).sum + ys.length * s.length ≤ 16777216 ∧ (Txt.join s ys).length ≤ sizeLine then .ok (.d (.str (Txt.join s ys))) e2 else .bad
          | none => .bad) → rJoin K (.str s) [u] H2 Q := fun xs ⟨q1, vs, e1, sq, d⟩ p => by
          subst e1
          cases e2 : strsD xs with
          | none => simp only [Option.bind_some, e2] at p; exact False.elim p
          | some ys =>
            simp only [Option.bind_some, e2] at p
            split at p
            · rename_i hl
              refine ⟨s, q1, ys, rfl, rfl, by rw [← strsD_dn d e2]; exact sq, hl.1, p _ H2 (R2.pop.pop.pushD (.str _ hl.2))⟩
            · exact False.elim p
        cases e3 : b.tup? with
        | some xs =>
          simp only [e3] at p
          obtain ⟨q1, vs, e1, t1, _, d1⟩ := cell_tup R2 R2.tm.1 e3
          exact key xs ⟨q1, vs, e1, .inr t1, d1⟩ p
        | none =>
          simp only [e3] at p
          cases e4 : b.lst? e2 with
          | none => simp only [e4, Option.bind_none] at p; exact False.elim p
          | some xs =>
            simp only [e4] at p
            obtain ⟨q1, vs, e1, t1, d1⟩ := cell_lst R2 R2.tm.1 e4
            exact key xs ⟨q1, vs, e1, .inl t1, d1⟩ p
  · exact False.elim p
end
end Tw

namespace Tw
open PySem PySem.Spec PyProof.Rows L2
/-! ### things that are changed -/
def isNestK (i : Nat) (k : Key) : A → Bool
  | .rf j (some k') => j == i && decide (k' = k)
  | _ => false
theorem anyC_of_env {f : A → Bool} {env : Env} {te : List A} {i : Nat} {a : A} (e : env[i]? = some (some a)) (h : f a = true) : anyC f env te = true := by
  unfold anyC
  rw [Bool.or_eq_true]
  exact .inl (List.any_eq_true.mpr ⟨some a, List.mem_of_getElem? e, h⟩)
theorem anyC_of_te {f : A → Bool} {env : Env} {te : List A} {a : A} (e : a ∈ te) (h : f a = true) : anyC f env te = true := by
  unfold anyC
  rw [Bool.or_eq_true]
  exact .inr (List.any_eq_true.mpr ⟨a, e, h⟩)
section
variable {K : KW} {B : Bs} {F F' H H' : Hp} {O O' : Addr → Option Nat} {σ : List (Option V)} {env : Env} {ts : List V} {te : List A}
theorem RelF.chg (R : RelF K B F O σ env ts te H) {i : Nat} {v : V} {a a' : A} (he : env[i]? = some (some a)) (hv : σ[i]? = some (some v)) (sF : Same F F') (sH : Same F' H')
    (hk : ∀ j b, j ≠ i → O b = some j → O' b = some j ∧ H' b = H b ∧ F' b = none) (hO : ∀ b j, O' b = some j → j = i ∨ O b = some j)
    (hi : ∀ b, O' b = some i → F' b = none ∧ MutO (H' b) ∧ (B.H b = none ∨ (B.S b = some i ∧ B.io i = true)))
    (hb2 : ∀ b o, B.S b = none → B.H b ≠ none → H b = some o → H' b = some o) (htb : ∀ b o, O b = none → H b = some o → H' b = some o) (hb5 : ∀ b, H b ≠ none → H' b ≠ none) (hb3 : ∀ b, F b = none → F' b ≠ none → B.H b = none ∨ B.S b ≠ none)
    (new : CellO K B F' H' O' σ i v a') (hio : ∀ o, a = .io o → ∃ o', a' = .io o') (hp : ∀ k u, anyC (isNestK i k) env te = true → atP H O i v u (some k) → atP H' O' i v u (some k)) :
    RelF K B F' O' σ (env.set i (some a')) ts te H' := by
  have il : i < env.length := (List.getElem?_eq_some_iff.mp he).1
  have cell : ∀ {j : Nat} {u : V} {c : A}, CellO K B F H O σ j u c → j ≠ i → (∀ k, c = .rf i (some k) → anyC (isNestK i k) env te = true) → CellO K B F' H' O' σ j u c := fun {j u c} h nj hc => by
    cases c with
    | d x => exact Dn.same sF h
    | own o => exact OwO.mono (own := fun a => O a = some j ∧ B.H a = none) sF (fun a z => ⟨(hk j a nj z.1).1, z.2⟩) (fun a z => (hk j a nj z.1).2.1) h
    | io o => exact ⟨OwO.mono (own := fun a => O a = some j) sF (fun a z => (hk j a nj z).1) (fun a z => (hk j a nj z).2.1) h.1, h.2⟩
    | sc ns => obtain ⟨a, e, q⟩ := h; exact ⟨a, e, Same.sqL sF q⟩
    | q xs => obtain ⟨a, vs, e, q, d⟩ := h; exact ⟨a, vs, e, Same.sqT' sF q, d.same sF⟩
    | lk kvs => exact h
    | xr x => obtain ⟨e1, e2, h⟩ := h; exact ⟨e1, e2, h.imp id fun ⟨dx, us, e3, h1, h2⟩ => ⟨dx, us, e3, sF _ _ h1, h2.same sF⟩⟩
    | rf i' p =>
      obtain ⟨w, hw, h⟩ := h
      refine ⟨w, hw, ?_⟩
      cases p with
      | none => exact h
      | some k =>
        by_cases ii : i' = i
        · subst ii
          rw [hv] at hw
          cases hw
          exact hp k u (hc k rfl) h
        · exact h.mono fun _ b z => ⟨(hk i' b ii z).1, (hk i' b ii z).2.1⟩
  have tm : ∀ {us : List V} {ue : List A}, (∀ c ∈ ue, c ∈ te) → TmO K B F H O σ us ue → TmO K B F' H' O' σ us ue := fun {us} => by
    induction us with
    | nil => intro ue _ h; cases ue with
      | nil => trivial
      | cons => exact h.elim
    | cons u us ih =>
      intro ue hm h
      cases ue with
      | nil => exact h.elim
      | cons x ue =>
        refine ⟨cell h.1 (by have := R.ln; omega) (fun k e => anyC_of_te (hm x List.mem_cons_self) (by rw [e]; simp [isNestK])), ih (fun c hc => hm c (List.mem_cons_of_mem _ hc)) h.2⟩
  refine ⟨by rw [List.length_set]; exact R.ln, fun j c e => ?_, tm (fun c h => h) R.tm, sH, fun b j z => ?_, R.b1.trans sF, fun b o hs ht e => hb2 b o hs (by rw [e]; exact nofun) (R.b2 b o hs ht e), fun b h1 h2 => ?_, fun b h => hb5 b (R.b5 b h), fun j hj => ?_, R.tb.1, R.tb.2.mono fun b o t z => htb b o (R.noT t z) z⟩
  · rw [List.getElem?_set] at e
    by_cases ji : i = j
    · subst ji
      rw [if_pos rfl, if_pos il] at e
      cases e
      exact ⟨v, hv, new⟩
    · rw [if_neg ji] at e
      obtain ⟨u, e1, h⟩ := R.sl j c e
      exact ⟨u, e1, cell h (Ne.symm ji) fun k ec => anyC_of_env e (by rw [ec]; simp [isNestK])⟩
  · by_cases ji : j = i
    · subst ji
      obtain ⟨h1, h2, h3⟩ := hi b z
      exact ⟨h1, h2, by have := R.ln; omega, h3⟩
    · rcases hO b j z with h | h
      · exact absurd h ji
      · obtain ⟨h1, h2, h3, h4⟩ := R.of b j h
        obtain ⟨k1, k2, k3⟩ := hk j b ji h
        exact ⟨k3, by rw [k2]; exact h2, h3, h4⟩
  · cases q : F b with
    | none => exact hb3 b q h2
    | some o => exact R.b3 b h1 (by rw [q]; exact nofun)
  · obtain ⟨o, ho⟩ := R.bi j hj
    rw [List.getElem?_set]
    by_cases ji : i = j
    · subst ji
      rw [if_pos rfl, if_pos il]
      rw [he] at ho
      obtain ⟨o', e'⟩ := hio o (Option.some.inj (Option.some.inj ho))
      exact ⟨o', by rw [e']⟩
    · rw [if_neg ji]
      exact ⟨o, ho⟩
/-- the cell of a slot with another thing -/
def reOw (a : A) (o : Ow) : A := match a with
  | .io _ => .io o
  | _ => .own o
/-- the first one with a key, anew -/
def setF {α : Type} : List (Key × α) → Key → α → List (Key × α)
  | [], _, _ => []
  | q :: r, k, y => if q.1 = k then (q.1, y) :: r else q :: setF r k y
/-- the content of a list that is told, anew -/
def Ow.put (o : Ow) (p : Option Key) (ys : List Dt) : Option Ow := match o, p with
  | .l _, none => some (.l ys)
  | .ll xss, some (.inl n) => if 0 ≤ n ∧ n.toNat < xss.length then some (.ll (xss.set n.toNat ys)) else none
  | .dl kvs, some k => if (lkD kvs k).isSome = true then some (.dl (setF kvs k ys)) else none
  | _, _ => none
def setP (env : Env) (i : Nat) (p : Option Key) (ys : List Dt) : Option Env := match env[i]?, owAt env i with
  | some (some a), some o => (o.put p ys).map fun o' => env.set i (some (reOw a o'))
  | _, _ => none
theorem owAt_cell {i : Nat} {o : Ow} (h : owAt env i = some o) : env[i]? = some (some (.own o)) ∨ env[i]? = some (some (.io o)) := by
  unfold owAt at h
  split at h
  · rename_i e; cases h; exact .inl e
  · rename_i e; cases h; exact .inr e
  · cases h
/-- a list of data that a reference tells is changed -/
theorem rel_mutP (R : RelF K B F O σ env ts te H) {j i : Nat} {p : Option Key} {v : V} {xs : List Dt} (c : CellO K B F H O σ j v (.rf i p)) (h : (A.rf i p).ow env = some (.l xs)) (nn : p = none → anyC (isNest i) env te = false) :
    ∃ q us, v = .ref q ∧ H q = some (.lst us) ∧ DnAll K F us xs ∧ ∀ us' ys e', DnAll K F us' ys → setP env i p ys = some e' → RelF K B F O σ e' ts te (upd H q (.lst us')) := by
  have own := cell_rf R c h
  obtain ⟨q, us, ev, oq, hq, d⟩ := own
  subst ev
  refine ⟨q, us, rfl, hq, d, fun us' ys e' d' hs => ?_⟩
  obtain ⟨w, hw, hat⟩ := c
  unfold setP at hs
  cases ea : env[i]? with
  | none => rw [ea] at hs; cases hs
  | some oa =>
    cases oa with
    | none => rw [ea] at hs; cases hs
    | some a =>
      cases eo : owAt env i with
      | none => rw [ea, eo] at hs; cases hs
      | some o =>
        rw [ea, eo] at hs
        simp only at hs
        cases ep : o.put p ys with
        | none => rw [ep] at hs; cases hs
        | some o' =>
          rw [ep] at hs
          cases hs
          have cellW := R.owAt eo hw
          -- the new thing
          have newO : ∀ own : Addr → Prop, (∀ a, O a = some i → own a) → OwO K F (upd H q (.lst us')) own w o' := by
            intro own ho
            cases o with
            | l xs0 =>
              cases p with
              | some k => cases ep
              | none =>
                cases ep
                have hat : V.ref q = w := hat
                exact ⟨q, us', hat.symm, ho q oq, upd_same, d'⟩
            | dc kvs => cases p <;> cases ep
            | x kvs => cases p <;> cases ep
            | ll xss =>
              cases p with
              | none => cases ep
              | some k =>
                cases k with
                | inr _ => cases ep
                | inl n =>
                  unfold Ow.put at ep
                  simp only at ep
                  split at ep
                  · rename_i hn
                    cases ep
                    obtain ⟨b, vs, eb, ob, hb, nd, nm, pr⟩ := cellW
                    obtain ⟨a', ea', oa', hh⟩ := hat
                    rw [eb] at ea'
                    cases ea'
                    rcases hh with ⟨vs2, m, em, m0, hv2, hm⟩ | ⟨us2, hu2, _⟩
                    · cases em
                      rw [hb] at hv2
                      cases hv2
                      have nq : b ≠ q := fun z => nm (by rw [z]; exact List.mem_of_getElem? hm)
                      refine ⟨b, vs, eb, ho b ob, by rw [upd_ne nq]; exact hb, nd, nm, ?_⟩
                      have base : ∀ {vs0 : List V} {xss0 : List (List Dt)} {m : Nat}, Paired (OwL K F H fun a => O a = some i) vs0 xss0 → vs0.Nodup → vs0[m]? = some (.ref q) → Paired (OwL K F (upd H q (.lst us')) own) vs0 (xss0.set m ys) := by
                        intro vs0
                        induction vs0 with
                        | nil => intro xss0 m _ _ h; simp at h
                        | cons z r ih =>
                          intro xss0 m pr nd h
                          cases pr with
                          | cons g pr =>
                            have nd' := List.nodup_cons.mp nd
                            cases m with
                            | zero =>
                              cases h
                              refine .cons ⟨q, us', rfl, ho q oq, upd_same, d'⟩ ?_
                              have keep : ∀ {r : List V} {xr : List (List Dt)}, V.ref q ∉ r → Paired (OwL K F H fun a => O a = some i) r xr → Paired (OwL K F (upd H q (.lst us')) own) r xr := by
                                intro r
                                induction r with
                                | nil => intro xr _ p; cases p; exact .nil
                                | cons y r ih2 =>
                                  intro xr hn p
                                  cases p with
                                  | cons g p =>
                                    obtain ⟨a2, vs2, e2, o2, h2, d2⟩ := g
                                    refine .cons ⟨a2, vs2, e2, ho a2 o2, ?_, d2⟩ (ih2 (fun z => hn (List.mem_cons_of_mem _ z)) p)
                                    rw [upd_ne (fun z => hn (by rw [← z, ← e2]; exact List.mem_cons_self))]
                                    exact h2
                              exact keep nd'.1 pr
                            | succ m =>
                              obtain ⟨a2, vs2, e2, o2, h2, d2⟩ := g
                              have hm : r[m]? = some (.ref q) := by simpa using h
                              refine .cons ⟨a2, vs2, e2, ho a2 o2, ?_, d2⟩ (ih pr nd'.2 hm)
                              rw [upd_ne (fun z => nd'.1 (by rw [e2, z]; exact List.mem_of_getElem? hm))]
                              exact h2
                      exact base pr nd hm
                    · rw [hb] at hu2; cases hu2
                  · cases ep
            | dl kvs =>
              cases p with
              | none => cases ep
              | some k =>
                unfold Ow.put at ep
                simp only at ep
                split at ep
                · rename_i hk
                  cases ep
                  obtain ⟨b, vs, eb, ob, hb, nd, nm, pr⟩ := cellW
                  obtain ⟨a', ea', oa', hh⟩ := hat
                  rw [eb] at ea'
                  cases ea'
                  rcases hh with ⟨vs2, m, em, m0, hv2, hm⟩ | ⟨us2, hu2, hval⟩
                  · rw [hb] at hv2; cases hv2
                  · rw [hb] at hu2
                    cases hu2
                    have mem : V.ref q ∈ vs.map (·.2) := by
                      unfold valV at hval
                      cases qf : vs.find? fun kv => decide (kv.1 = k) with
                      | none => rw [qf] at hval; cases hval
                      | some kv =>
                        rw [qf] at hval
                        have : kv.2 = V.ref q := Option.some.inj hval
                        exact List.mem_map.mpr ⟨kv, List.mem_of_find?_eq_some qf, this⟩
                    have nq : b ≠ q := fun z => nm (by rw [z]; exact mem)
                    refine ⟨b, vs, eb, ho b ob, by rw [upd_ne nq]; exact hb, nd, nm, ?_⟩
                    have keep : ∀ {r : List (Key × V)} {xr : List (Key × List Dt)}, V.ref q ∉ r.map (·.2) → Paired (fun (p : Key × V) (q : Key × List Dt) => p.1 = q.1 ∧ OwL K F H (fun a => O a = some i) p.2 q.2) r xr → Paired (fun (p : Key × V) (z : Key × List Dt) => p.1 = z.1 ∧ OwL K F (upd H q (.lst us')) own p.2 z.2) r xr := by
                      intro r
                      induction r with
                      | nil => intro xr _ p; cases p; exact .nil
                      | cons y r ih2 =>
                        intro xr hn p
                        cases p with
                        | cons g p =>
                          obtain ⟨ek, a2, vs2, e2, o2, h2, d2⟩ := g
                          refine .cons ⟨ek, a2, vs2, e2, ho a2 o2, ?_, d2⟩ (ih2 (fun z => hn (List.mem_cons_of_mem _ z)) p)
                          rw [upd_ne (fun z => hn (by rw [← z, ← e2]; exact List.mem_cons_self))]
                          exact h2
                    have base : ∀ {vs0 : List (Key × V)} {ks0 : List (Key × List Dt)}, Paired (fun (p : Key × V) (q : Key × List Dt) => p.1 = q.1 ∧ OwL K F H (fun a => O a = some i) p.2 q.2) vs0 ks0 → (vs0.map (·.2)).Nodup → valV vs0 k = some (.ref q) → Paired (fun (p : Key × V) (z : Key × List Dt) => p.1 = z.1 ∧ OwL K F (upd H q (.lst us')) own p.2 z.2) vs0 (setF ks0 k ys) := by
                      intro vs0
                      induction vs0 with
                      | nil => intro ks0 _ _ h; cases h
                      | cons z r ih =>
                        intro ks0 pr nd h
                        cases pr with
                        | cons g pr =>
                          rename_i y0 ks
                          obtain ⟨ek, a2, vs2, e2, o2, h2, d2⟩ := g
                          have nd' := List.nodup_cons.mp (show (z.2 :: r.map (·.2)).Nodup from nd)
                          unfold valV at h
                          rw [List.find?_cons] at h
                          unfold setF
                          by_cases hk2 : z.1 = k
                          · rw [decide_eq_true hk2] at h
                            have ez : z.2 = .ref q := Option.some.inj h
                            rw [if_pos (ek ▸ hk2)]
                            refine .cons ⟨ek, q, us', ez, ho q oq, upd_same, d'⟩ (keep (by rw [← ez]; exact nd'.1) pr)
                          · rw [decide_eq_false hk2] at h
                            rw [if_neg (fun z => hk2 (ek.trans z))]
                            have hm : valV r k = some (.ref q) := h
                            have memr : V.ref q ∈ r.map (·.2) := by
                              unfold valV at hm
                              cases qf : r.find? fun kv => decide (kv.1 = k) with
                              | none => rw [qf] at hm; cases hm
                              | some kv =>
                                rw [qf] at hm
                                have : kv.2 = V.ref q := Option.some.inj hm
                                exact List.mem_map.mpr ⟨kv, List.mem_of_find?_eq_some qf, this⟩
                            refine .cons ⟨ek, a2, vs2, e2, ho a2 o2, ?_, d2⟩ (ih pr nd'.2 hm)
                            rw [upd_ne (fun y => nd'.1 (by rw [e2, y]; exact memr))]
                            exact h2
                    exact base pr nd.1 hval
                · cases ep
          have hio : ∀ o0, a = .io o0 → ∃ o'0, reOw a o' = .io o'0 := fun o0 e => ⟨o', by rw [e]; rfl⟩
          have hn0 : ∀ b, O b ≠ some i → upd H q (.lst us') b = H b := fun b nb => upd_ne (fun z => nb (by rw [z]; exact oq))
          refine R.chg ea hw (Same.refl F) (fun b o e => ?_) (fun j b nj z => ⟨z, hn0 b (by rw [z]; exact fun y => nj (Option.some.inj y)), (R.of b j z).1⟩) (fun b j z => .inr z) (fun b z => ?_) (fun b o hs hB hHb => ?_) (fun b o nb z => by rw [hn0 b (by rw [nb]; exact nofun)]; exact z) (fun b hb => ?_) (fun b h1 h2 => absurd h1 h2) ?_ hio (fun k u hany hat2 => ?_)
          · rw [upd_ne (fun z => by rw [z, (R.of q i oq).1] at e; cases e)]
            exact R.sf b o e
          · obtain ⟨h1, h2, h3, h4⟩ := R.of b i z
            refine ⟨h1, ?_, h4⟩
            by_cases hb : b = q
            · rw [hb, upd_same]; exact mutO_lst _
            · rw [upd_ne hb]; exact h2
          · by_cases hb : b = q
            · subst hb
              rcases (R.of b i oq).2.2.2 with y | y
              · exact absurd y hB
              · rw [y.1] at hs; cases hs
            · rw [upd_ne hb]; exact hHb
          · by_cases hb2 : b = q
            · rw [hb2, upd_same]; exact nofun
            · rw [upd_ne hb2]; exact hb
          · rcases owAt_cell eo with e2 | e2
            · rw [ea] at e2
              cases e2
              refine newO _ fun a z => ⟨z, ?_⟩
              rcases (R.of a i z).2.2.2 with y | y
              · exact y
              · obtain ⟨o9, h9⟩ := R.bi i y.2
                rw [ea] at h9
                cases h9
            · rw [ea] at e2
              cases e2
              obtain ⟨w', hw', c'⟩ := R.sl i _ ea
              rw [hw] at hw'
              cases hw'
              exact ⟨newO _ fun a z => z, c'.2⟩
          · -- nested references
            cases p with
            | none =>
              exfalso
              have := nn rfl
              unfold anyC at this hany
              rw [Bool.or_eq_false_iff] at this
              rw [Bool.or_eq_true] at hany
              have imp : ∀ c : A, isNestK i k c = true → isNest i c = true := fun c h => by
                cases c with
                | rf i' p' =>
                  cases p' with
                  | none => cases h
                  | some k' => simp [isNestK] at h; simp [isNest, h.1]
                | _ => cases h
              rcases hany with z | z
              · obtain ⟨c, hc, hz⟩ := List.any_eq_true.mp z
                have := List.any_eq_false.mp this.1 c hc
                cases c with
                | none => cases hz
                | some c => exact this (imp c hz)
              · obtain ⟨c, hc, hz⟩ := List.any_eq_true.mp z
                exact List.any_eq_false.mp this.2 c hc (imp c hz)
            | some kp =>
              obtain ⟨a2, e2, o2, h2⟩ := hat2
              have nq : a2 ≠ q := by
                rintro rfl
                cases o with
                | l _ => cases ep
                | dc _ => cases ep
                | x _ => cases ep
                | ll xss =>
                  obtain ⟨b, vs, eb, ob, hb, nd, nm, pr⟩ := cellW
                  obtain ⟨a', ea', oa', hh⟩ := hat
                  rw [eb] at ea' e2
                  cases ea'
                  cases e2
                  rcases hh with ⟨vs2, m, em, m0, hv2, hm⟩ | ⟨us2, hu2, _⟩
                  · rw [hb] at hv2
                    cases hv2
                    exact nm (List.mem_of_getElem? hm)
                  · rw [hb] at hu2; cases hu2
                | dl kvs =>
                  obtain ⟨b, vs, eb, ob, hb, nd, nm, pr⟩ := cellW
                  obtain ⟨a', ea', oa', hh⟩ := hat
                  rw [eb] at ea' e2
                  cases ea'
                  cases e2
                  rcases hh with ⟨vs2, m, em, m0, hv2, hm⟩ | ⟨us2, hu2, hval⟩
                  · rw [hb] at hv2; cases hv2
                  · rw [hq] at hb; cases hb
              refine ⟨a2, e2, o2, ?_⟩
              rw [upd_ne nq]
              exact h2
end
end Tw

namespace Tw
open PySem PySem.Spec PyProof.Rows L2
/-! ### methods of lists -/
def isL (e : Env) (o : A) : Bool := match o with
  | .d (.list _) => true
  | o => match o.ow e with
    | some (.l _) => true
    | some (.ll _) => true
    | _ => false
def mMeth (f : Env → List A → A → List A → Rs A) (mo : ME) (ma : MA) : ME := fun env te => (mo env te).bind fun o e1 => if isL e1 o = true then (ma e1 (o :: te)).bind fun as e2 => f e2 te o as else .bad
/-- the list that a reference tells, anew -/
def mutL (e : Env) (te : List A) (o : A) (g : List Dt → Option (Dt × List Dt)) : Rs A := match o with
  | .rf i p => match (A.rf i p).ow e with
    | some (.l xs) => if p.isSome = true ∨ anyC (isNest i) e te = false then (match g xs with
      | some (r, ys) => (match setP e i p ys with
        | some e' => .ok (.d r) e'
        | none => .bad)
      | none => .bad) else .bad
    | _ => .bad
  | _ => .bad
def appA : Env → List A → A → List A → Rs A := fun e te o as => match dAll as with
  | some [y] => mutL e te o fun xs => if xs.length < sizeLine then some (.none, xs ++ [y]) else none
  | _ => .bad
def extA : Env → List A → A → List A → Rs A := fun e te o as => match dAll as with
  | some [y] => (match seqD y with
    | some zs => mutL e te o fun xs => if xs.length + zs.length ≤ sizeLine then some (.none, xs ++ zs) else none
    | none => .bad)
  | _ => .bad
def insA : Env → List A → A → List A → Rs A := fun e te o as => match dAll as with
  | some [.int i, y] => mutL e te o fun xs => if xs.length < sizeLine ∧ 0 ≤ i ∧ i < 2 ^ 63 then some (.none, xs.take i.toNat ++ [y] ++ xs.drop i.toNat) else none
  | _ => .bad
def popA : Env → List A → A → List A → Rs A := fun e te o as => match as with
  | [] => mutL e te o fun xs => match xs[xs.length - 1]? with
    | some y => some (y, xs.dropLast)
    | none => none
  | _ => .bad
def popAtA : Env → List A → A → List A → Rs A := fun e te o as => match dAll as with
  | some [.int i] => mutL e te o fun xs => if -(2 ^ 63) ≤ i ∧ i < 2 ^ 63 then (match seqIndex? i xs.length with
    | some k => (match xs[k]? with
      | some y => some (y, xs.eraseIdx k)
      | none => none)
    | none => none) else none
  | _ => .bad
/-- the first place of a datum -/
def ixOf (d : Dt) : List Dt → Option Nat
  | [] => none
  | x :: xs => if PyData.eqv x d = true then some 0 else (ixOf d xs).map (· + 1)
def tixA (e : Env) (a b : A) : Rs A := match a, b with
  | .d (.tuple xs), .d d => if d.plain = true ∧ PyData.plainAll xs = true ∧ min (PyData.depthAll xs) d.depth ≤ 190 then (match ixOf d xs with
    | some j => .ok (.d (.int j)) e
    | none => .bad) else .bad
  | _, _ => .bad
def mTix (ma mb : ME) : ME := fun env te => (ma env te).bind fun a e1 => match a with
  | .d (.tuple xs) => (mb e1 (a :: te)).bind fun b e2 => tixA e2 a b
  | _ => .bad
section
variable {K : KW} {B : Bs} {W : WX}
def SM (K : KW) (B : Bs) (W : WX) (r : V → List V → Hp → VK → Prop) (f : Env → List A → A → List A → Rs A) : Prop := ∀ σ env ts te H Q v vs o as, vs.length = as.length → Rel K B σ env (vs.reverse ++ (v :: ts)) (as.reverse ++ (o :: te)) H → PE' K B W σ ts te Q (f env te o as) → r v vs H Q
theorem isL_ty {σ : L2.St} {env : Env} {ts : List V} {te : List A} {H : Hp} {v : V} {o : A} (R : Rel K B σ env (v :: ts) (o :: te) H) (h : isL env o = true) : tyV K "list" v H := by
  obtain ⟨F, O, R⟩ := R
  have key : ∀ u, o.ow env = some u → (∃ xs, u = .l xs) ∨ (∃ xs, u = .ll xs) → tyV K "list" v H := fun u e1 e2 => by
    obtain ⟨own, q⟩ := cell_ow R R.tm.1 e1
    rcases e2 with ⟨xs, rfl⟩ | ⟨xs, rfl⟩
    · obtain ⟨a, vs, rfl, _, h1, _⟩ := q
      exact .inl ⟨rfl, vs, .inl (.inl h1)⟩
    · obtain ⟨a, vs, rfl, _, h1, _⟩ := q
      exact .inl ⟨rfl, vs, .inl (.inl h1)⟩
  have g : (match o.ow env with | some (.l _) => true | some (.ll _) => true | _ => false) = true → tyV K "list" v H := fun h => by
    cases e : o.ow env with
    | none => rw [e] at h; cases h
    | some u =>
      rw [e] at h
      cases u with
      | l xs => exact key _ e (.inl ⟨xs, rfl⟩)
      | ll xs => exact key _ e (.inr ⟨xs, rfl⟩)
      | dc _ => cases h
      | dl _ => cases h
      | x _ => cases h
  cases o with
  | d x =>
    cases x with
    | list xs =>
      have c : Dn K F v (.list xs) := R.tm.1
      cases c with
      | lst h1 _ => exact .inl ⟨rfl, _, .inl (.inl (R.sf _ _ h1))⟩
    | _ => cases h
  | own _ => exact g h
  | io _ => exact g h
  | rf _ _ => exact g h
  | sc _ => exact g h
  | q _ => exact g h
  | lk _ => exact g h
  | xr _ => exact g h
theorem se_meth {r : V → List V → Hp → VK → Prop} {f : Env → List A → A → List A → Rs A} {to : TE} {ta : TA} {mo : ME} {ma : MA} (s : SM K B W r f) (ho : SE K B W to mo) (ha : SA K B W ta ma) : SE K B W (tBM K "list" r to ta) (mMeth f mo ma) := by
  intro σ env ts te H Q R p
  refine ho.thE R p fun o e p v H1 R1 => ?_
  split at p
  · rename_i il
    refine ⟨isL_ty R1 il, ?_⟩
    refine ha σ e (v :: ts) (o :: te) H1 _ R1 ?_
    cases q : ma e (o :: te) with
    | ok as e2 =>
      rw [q] at p
      intro vs H2 hl R2
      exact s σ e2 ts te H2 Q v vs o as hl R2 p
    | ex x e2 => rw [q] at p; exact XPost.push p v o
    | bad => rw [q] at p; exact p
  · exact False.elim p
/-- one list changed -/
theorem mutL_ok {σ : L2.St} {env : Env} {ts : List V} {te : List A} {F H : Hp} {O : Addr → Option Nat} {Q : VK} {v : V} {o : A} {g : List Dt → Option (Dt × List Dt)} (R : RelF K B F O σ env (v :: ts) (o :: te) H) (p : PE' K B W σ ts te Q (mutL env te o g)) :
    ∃ q us xs, v = .ref q ∧ H q = some (.lst us) ∧ DnAll K F us xs ∧ ∃ r ys, g xs = some (r, ys) ∧ ∀ w us', Dn K F w r → DnAll K F us' ys → Q w (upd H q (.lst us')) := by
  unfold mutL at p
  cases o with
  | rf i pt =>
    simp only at p
    cases e : (A.rf i pt).ow env with
    | none => simp only [e] at p; exact False.elim p
    | some u =>
      cases u with
      | l xs =>
        simp only [e] at p
        split at p
        · rename_i cn
          cases eg : g xs with
          | none => simp only [eg] at p; exact False.elim p
          | some ry =>
            obtain ⟨r, ys⟩ := ry
            simp only [eg] at p
            cases es : setP env i pt ys with
            | none => simp only [es] at p; exact False.elim p
            | some e' =>
              simp only [es] at p
              obtain ⟨O1, R1, _, pr⟩ := args_cells (us := [v]) (ue := [.rf i pt]) rfl (fun a ha => by rw [List.mem_singleton.mp ha]; rfl) R
              cases pr with
              | cons c _ =>
                obtain ⟨q, us, ev, hq, d, k⟩ := rel_mutP R1 c e (fun z => by
                  rcases cn with z2 | z2
                  · rw [z] at z2; cases z2
                  · exact z2)
                exact ⟨q, us, xs, ev, hq, d, r, ys, eg, fun w us' hw d' => p _ _ ((k us' ys e' d' es).pushD hw)⟩
        · exact False.elim p
      | ll _ => simp only [e] at p; exact False.elim p
      | dc _ => simp only [e] at p; exact False.elim p
      | dl _ => simp only [e] at p; exact False.elim p
      | x _ => simp only [e] at p; exact False.elim p
  | d _ => exact False.elim p
  | own _ => exact False.elim p
  | io _ => exact False.elim p
  | sc _ => exact False.elim p
  | q _ => exact False.elim p
  | lk _ => exact False.elim p
  | xr _ => exact False.elim p
theorem sm_app : SM K B W rAppend appA := by
  intro σ env ts te H Q v vs o as hl R p
  unfold appA at p
  split at p
  · rename_i y e
    obtain ⟨F, O, R2, d⟩ := args_dn hl R e
    cases d with
    | cons hy d =>
      cases d
      obtain ⟨q, us, xs, rfl, hq, dx, r, ys, eg, k⟩ := mutL_ok R2 p
      try dsimp only at eg
      split at eg
      · rename_i hz
        cases eg
        exact ⟨q, us, _, rfl, rfl, hq, by rw [dx.length]; exact hz, k _ _ .non (dx.app (.cons hy .nil))⟩
      · cases eg
  · exact False.elim p
theorem DnAll.dropLast {F : Hp} {vs : List V} {xs : List Dt} (d : DnAll K F vs xs) : DnAll K F vs.dropLast xs.dropLast := by
  rw [List.dropLast_eq_take, List.dropLast_eq_take, d.length]
  exact d.take _
theorem DnAll.erase {F : Hp} : ∀ {vs : List V} {xs : List Dt} (n : Nat), DnAll K F vs xs → DnAll K F (vs.eraseIdx n) (xs.eraseIdx n)
  | _, _, _, .nil => .nil
  | _, _, 0, .cons _ hs => hs
  | _, _, n + 1, .cons h hs => .cons h (DnAll.erase n hs)
/-! ### t.index(x) -/
/-! ### xs[i] = v -/
def setLA (e : Env) (te : List A) (o b a : A) : Option Env := match a with
  | .d y => (match b.val e with
    | some (.int i) => (match mutL e te o (fun xs => match ixN xs.length i with | some j => some (.none, xs.set j y) | none => none) with
      | .ok _ e' => some e'
      | _ => none)
    | _ => none)
  | _ => none
def mSetL (mv mo mi : ME) : MS := fun env te => (mv env te).fl fun a e => (mo e (a :: te)).fl fun o e1 => (mi e1 (o :: a :: te)).fl fun b e2 => match setLA e2 te o b a with
  | some e' => .nx e'
  | none => .bad
theorem SE.thS1 {t : TE} {m : ME} (h : SE K B W t m) {σ : L2.St} {env : Env} {ts : List V} {te : List A} {H : Hp} {Q : VK} {D : Ends} {v : V} {a : A} (R : Rel K B σ env (v :: ts) (a :: te) H) {f : A → Env → Fl} (p : PS' K B W ts te D ((m env (a :: te)).fl f))
    (hok : ∀ b e, PS' K B W ts te D (f b e) → ∀ w H', Rel K B σ e (w :: v :: ts) (b :: a :: te) H' → Q w H') : t σ H Q := by
  refine h σ env _ _ H Q R ?_
  cases e : m env (a :: te) with
  | ok b e' => rw [e] at p; exact hok b e' p
  | ex x e' => rw [e] at p; exact XPost.push (p σ) v a
  | bad => rw [e] at p; exact p
theorem SE.thS2 {t : TE} {m : ME} (h : SE K B W t m) {σ : L2.St} {env : Env} {ts : List V} {te : List A} {H : Hp} {Q : VK} {D : Ends} {v u : V} {a b : A} (R : Rel K B σ env (u :: v :: ts) (b :: a :: te) H) {f : A → Env → Fl} (p : PS' K B W ts te D ((m env (b :: a :: te)).fl f))
    (hok : ∀ c e, PS' K B W ts te D (f c e) → ∀ w H', Rel K B σ e (w :: u :: v :: ts) (c :: b :: a :: te) H' → Q w H') : t σ H Q := by
  refine h σ env _ _ H Q R ?_
  cases e : m env (b :: a :: te) with
  | ok b e' => rw [e] at p; exact hok b e' p
  | ex x e' => rw [e] at p; exact XPost.push (XPost.push (p σ) v a) u b
  | bad => rw [e] at p; exact p
theorem ss_setL {tv to ti : TE} {mv mo mi : ME} (hv : SE K B W tv mv) (ho : SE K B W to mo) (hi : SE K B W ti mi) : SS K B W (tAsg tv (gSub to ti rSetL)) (mSetL mv mo mi) := by
  intro σ env ts te H D R p
  refine hv.thS R p fun a e p v H1 R1 => ?_
  refine ho.thS1 R1 p fun o e1 p u H2 R2 => ?_
  refine hi.thS2 R2 p fun b e2 p w H3 R3 => ?_
  obtain ⟨F, O, R3⟩ := R3
  cases q : setLA e2 te o b a with
  | none => simp only [q] at p; exact False.elim p
  | some e' =>
    simp only [q] at p
    have p9 : ∀ σ H, Rel K B σ e' ts te H → D.nx σ H := p
    have ha : ∃ y, a = .d y := by
      cases a with
      | d y => exact ⟨y, rfl⟩
      | _ => cases q
    obtain ⟨y, rfl⟩ := ha
    have hb : ∃ i, b.val e2 = some (.int i) := by
      unfold setLA at q
      cases eb : b.val e2 with
      | none => simp only [eb] at q; cases q
      | some x =>
        cases x with
        | int i => exact ⟨i, rfl⟩
        | _ => simp only [eb] at q; cases q
    obtain ⟨i, eb⟩ := hb
    unfold setLA at q
    simp only [eb] at q
    · have cb := cell_val R3 R3.tm.1 eb
      cases cb
      have hy : Dn K F v y := R3.tm.2.2.1
      have R5 := R3.pop.mid (by
        cases o with
        | io _ => exact False.elim (by unfold mutL at q; cases q)
        | _ => rfl)
      cases q2 : mutL e2 te o (fun xs => match ixN xs.length i with | some j => some (.none, xs.set j y) | none => none) with
      | ok r e'' =>
        rw [q2] at q
        cases q
        obtain ⟨z, us, xs, ez, hz, dx, r, ys, eg, k⟩ := mutL_ok (Q := fun _ H' => D.nx σ H') (W := W) R5 (by rw [q2]; exact fun w H' R' => p9 σ H' R'.pop)
        cases en : ixN xs.length i with
        | none => simp only [en] at eg; cases eg
        | some n =>
          simp only [en] at eg
          cases eg
          exact ⟨z, us, i, n, ez, rfl, hz, by rw [dx.length]; exact en, k _ _ .non (dx.set n hy)⟩
      | ex x e'' => rw [q2] at q; cases q
      | bad => rw [q2] at q; cases q
end
end Tw

namespace Tw
open PySem PySem.Spec PyProof.Rows L2
/-! ### what is walked -/
def iSeq (K : PySem.W.Frag) (t : TE) : TI := fun σ H R => t σ H fun x H1 => (∃ a, x = .ref a ∧ (∃ xs, SqL K H1 a xs) ∧ R (Itl K a) H1) ∨ (∃ a, x = .ref a ∧ (∃ xs, SqT K H1 a xs) ∧ R (Itt K a) H1) ∨ ∃ z, x = .str z ∧ R (Its z) H1
theorem pi_seq {X : Cx} {tg l : Expr} {tl : TE} (hl : PE X l tl) : PI X tg l (iSeq X.K tl) := by
  refine ⟨fun pins s σ H R I h => ?_⟩
  refine thn (hl.run pins s σ H _ I h) fun v s1 ⟨x, H1, I1, r1, q1⟩ => ?_
  rcases q1 with ⟨a, e, ⟨xs, hq⟩, q⟩ | ⟨a, e, ⟨xs, hq⟩, q⟩ | ⟨z, e, q⟩
  · subst e
    cases r1
    obtain ⟨its, rv, p, hz⟩ := I1.list hq
    refine wpAny_pyIter_list p.isList ?_
    refine ⟨s1.heap.objs.size, [s1.heap.objs.size], _, _, H1, rfl, I1.kept (t' := s1.toks) fun b o e => Heap.get?_push_of_some _ e, turn_list a _, ⟨_, Heap.get?_push_size _ rfl, rfl, rfl⟩, fun b hb => ?_, q⟩
    have e : b = s1.heap.objs.size := by simpa using hb
    subst e
    exact I1.fpOk (Nat.le_refl _) (I1.hok.fresh (Nat.le_refl _))
  · subst e
    cases r1
    obtain ⟨its, rv, p, hz⟩ := I1.tuple hq
    refine wpAny_pyIter_tuple (show s1.heap.IsTuple a its.toArray from p) ?_
    refine ⟨s1.heap.objs.size, [s1.heap.objs.size], _, _, H1, rfl, I1.kept (t' := s1.toks) fun b o e => Heap.get?_push_of_some _ e, turn_tuple a _, ⟨_, Heap.get?_push_size _ rfl, rfl, rfl⟩, fun b hb => ?_, q⟩
    have e : b = s1.heap.objs.size := by simpa using hb
    subst e
    exact I1.fpOk (Nat.le_refl _) (I1.hok.fresh (Nat.le_refl _))
  · subst e
    obtain ⟨t, rfl⟩ := r1
    cases ha : z.cps.all (· < 128)
    · exact wpAny_pyIter_wide ha (pi_one (tk := s1.toks) I1 _ (turn_str _ z t "str_iterator" (.inr rfl)) ⟨_, Heap.get?_push_size _ rfl, rfl, rfl⟩ q)
    · exact wpAny_pyIter_ascii ha (pi_one (tk := s1.toks) I1 _ (turn_str _ z t "str_ascii_iterator" (.inl rfl)) ⟨_, Heap.get?_push_size _ rfl, rfl, rfl⟩ q)
/-- the items of a list, a tuple, a text -/
def chD (z : Str) : List Dt := z.cps.toList.map fun c => .str ⟨#[c]⟩
def A.seq? (env : Env) (a : A) : Option (List Dt) := match a with
  | .d (.str z) => some (chD z)
  | a => match a.tup? with
    | some xs => some xs
    | none => a.lst? env
theorem seq_lst {env : Env} {a : A} (h : a.tup? = none) (nz : ∀ z, a ≠ .d (.str z)) : a.seq? env = a.lst? env := by
  cases a with
  | d x =>
    cases x with
    | str z => exact absurd rfl (nz z)
    | tuple xs => cases h
    | _ => rfl
  | q xs => cases h
  | _ => rfl
theorem seq_tup {env : Env} {a : A} {ys : List Dt} (h : a.tup? = some ys) : a.seq? env = some ys := by
  cases a with
  | d x =>
    cases x with
    | tuple xs => cases h; rfl
    | _ => cases h
  | q xs => cases h; rfl
  | _ => cases h
def mSeqI (m : ME) : MI := fun env te => (m env te).bind fun a e => match a.seq? e with
  | some _ => .ok ([a], fun env => a.seq? env) e
  | none => .bad
def intsD (lo : Int) (n : Nat) : List Dt := (List.range n).map fun (i : Nat) => .int (lo + i)
def mRng1 (m : ME) : MI := fun env te => (m env te).bind fun a e => match a with
  | .d (.int j) => if -(2 ^ 62) ≤ j ∧ j < 2 ^ 62 then .ok ([], fun _ => some (intsD 0 j.toNat)) e else .bad
  | _ => .bad
def mRng2 (ma mb : ME) : MI := fun env te => (ma env te).bind fun a e => (mb e (a :: te)).bind fun b e2 => match a, b with
  | .d (.int i), .d (.int j) => if -(2 ^ 62) ≤ i ∧ i < 2 ^ 62 ∧ -(2 ^ 62) ≤ j ∧ j < 2 ^ 62 then .ok ([], fun _ => some (intsD i (j - i).toNat)) e2 else .bad
  | _, _ => .bad
def enumD (xs : List Dt) : List Dt := xs.zipIdx.map fun q => .tuple [.int q.2, q.1]
def mEnT (m : ME) : MI := fun env te => (m env te).bind fun a e => match a.tup? with
  | some xs => .ok ([a], fun _ => some (enumD xs)) e
  | none => .bad
def mEnL (m : ME) : MI := fun env te => (m env te).bind fun a e => match a.lst? e with
  | some xs => .ok ([a], fun env => (a.lst? env).map enumD) e
  | none => .bad
section
variable {K : KW} {B : Bs} {W : WX}
theorem wd_cell {σ : L2.St} {env : Env} {us ts : List V} {ue te : List A} {H : Hp} {v0 : V} {a0 : A} (hl : us.length = ue.length) (R : Rel K B σ env (us ++ ([v0] ++ ts)) (ue ++ ([a0] ++ te)) H) :
    ∃ F O j, RelF K B F O σ env (us ++ ([v0] ++ ts)) (ue ++ ([a0] ++ te)) H ∧ CellO K B F H O σ j v0 a0 := by
  obtain ⟨F, O, R⟩ := R
  have : ∀ {us : List V} {ue : List A}, us.length = ue.length → TmO K B F H O σ (us ++ (v0 :: ts)) (ue ++ (a0 :: te)) → ∃ j, CellO K B F H O σ j v0 a0 := by
    intro us
    induction us with
    | nil => intro ue hl h; cases ue with
      | nil => exact ⟨_, h.1⟩
      | cons => cases hl
    | cons u us ih => intro ue hl h; cases ue with
      | nil => cases hl
      | cons x ue => exact ih (Nat.succ.inj hl) h.2
  obtain ⟨j, c⟩ := this hl R.tm
  exact ⟨F, O, j, R, c⟩
theorem si_seq {t : TE} {m : ME} (h : SE K B W t m) : SI K B W .d (iSeq K t) (mSeqI m) := by
  intro σ env ts te H R0 R p
  refine h σ env ts te H _ R ?_
  have p : PI' K B W .d σ ts te R0 ((m env te).bind fun a e => match a.seq? e with | some _ => .ok ([a], fun env => a.seq? env) e | none => .bad) := p
  cases q : m env te with
  | ex x e => rw [q] at p; exact p
  | bad => rw [q] at p; exact p
  | ok a e =>
    rw [q] at p
    simp only [Rs.bind_ok] at p
    intro v H1 R1
    cases es : a.seq? e with
    | none => simp only [es] at p; exact False.elim p
    | some xs =>
      simp only [es] at p
      have fin : ∀ J, WDk K B .d J [a] [v] (fun env => a.seq? env) → R0 J H1 := fun J wd => p J [v] H1 rfl R1 wd
      -- what kind of thing it is
      have lst : ∀ (ys : List Dt), a.tup? = none → (∀ z, a ≠ .d (.str z)) → a.lst? e = some ys → (∃ b, v = .ref b ∧ (∃ xs, SqL K H1 b xs) ∧ R0 (Itl K b) H1) := fun ys ht hz e1 => by
        obtain ⟨F1, O1, R1⟩ := R1
        obtain ⟨b, vs, rfl, sq, d⟩ := cell_lst R1 R1.tm.1 e1
        refine ⟨b, rfl, ⟨vs, sq⟩, fin _ ?_⟩
        intro i σ2 env2 us ue ts2 te2 H2 xs2 hl R2 hrd
        obtain ⟨F2, O2, j2, R2, c2⟩ := wd_cell hl R2
        have hrd : a.lst? env2 = some xs2 := by
          have z : a.seq? env2 = a.lst? env2 := seq_lst ht hz
          rw [← z]; exact hrd
        obtain ⟨b2, vs2, e2, sq2, d2⟩ := cell_lst R2 c2 hrd
        cases e2
        refine ⟨fun hi => ?_, fun x hx => ?_⟩
        · rw [hi, ← d2.length]; exact (walk_list (xs := vs2)).stops H2 sq2
        · have il := (List.getElem?_eq_some_iff.mp hx).1
          refine ⟨(walk_list (xs := vs2)).goes i H2 (by rw [d2.length]; exact il) sq2, fun w H3 hy => ?_⟩
          obtain ⟨rfl, hw⟩ := (walk_list (xs := vs2)).yields i H2 w H3 (by rw [d2.length]; exact il) sq2 hy
          obtain ⟨x', hx', dw⟩ := d2.getV hw
          rw [hx] at hx'
          cases hx'
          exact R2.pushD dw
      have tup : ∀ (ys : List Dt), a.tup? = some ys → (∃ b, v = .ref b ∧ (∃ xs, SqT K H1 b xs) ∧ R0 (Itt K b) H1) := fun ys e1 => by
        obtain ⟨F1, O1, R1⟩ := R1
        obtain ⟨b, vs, rfl, sq, _, d⟩ := cell_tup R1 R1.tm.1 e1
        refine ⟨b, rfl, ⟨vs, sq⟩, fin _ ?_⟩
        intro i σ2 env2 us ue ts2 te2 H2 xs2 hl R2 hrd
        obtain ⟨F2, O2, j2, R2, c2⟩ := wd_cell hl R2
        have hrd : ys = xs2 := by
          have z : a.seq? env2 = some ys := seq_tup e1
          have hrd : a.seq? env2 = some xs2 := hrd
          rw [z] at hrd
          exact Option.some.inj hrd
        subst hrd
        obtain ⟨b2, vs2, e2, sq2, _, d2⟩ := cell_tup R2 c2 e1
        cases e2
        refine ⟨fun hi => ?_, fun x hx => ?_⟩
        · rw [hi, ← d2.length]; exact (walk_tup (xs := vs2)).stops H2 sq2
        · have il := (List.getElem?_eq_some_iff.mp hx).1
          refine ⟨(walk_tup (xs := vs2)).goes i H2 (by rw [d2.length]; exact il) sq2, fun w H3 hy => ?_⟩
          obtain ⟨rfl, hw⟩ := (walk_tup (xs := vs2)).yields i H2 w H3 (by rw [d2.length]; exact il) sq2 hy
          obtain ⟨x', hx', dw⟩ := d2.getV hw
          rw [hx] at hx'
          cases hx'
          exact R2.pushD dw
      by_cases hz : ∃ z, a = .d (.str z)
      · obtain ⟨z, rfl⟩ := hz
        obtain ⟨F1, O1, R1⟩ := R1
        have c : Dn K F1 v (.str z) := R1.tm.1
        cases c with
        | str _ hzl =>
          refine .inr (.inr ⟨z, rfl, fin _ ?_⟩)
          intro i σ2 env2 us ue ts2 te2 H2 xs2 hl R2 hrd
          have hrd : chD z = xs2 := Option.some.inj hrd
          subst hrd
          have ln : (chD z).length = z.cps.size := by unfold chD; rw [List.length_map, Array.length_toList]
          refine ⟨fun hi => ?_, fun x hx => ?_⟩
          · rw [hi, ln]; exact walk_str.stops H2 trivial
          · have il := (List.getElem?_eq_some_iff.mp hx).1
            rw [ln] at il
            refine ⟨walk_str.goes i H2 il trivial, fun w H3 hy => ?_⟩
            obtain ⟨rfl, c, hc, rfl⟩ := walk_str.yields i H2 w H3 il trivial hy
            have : x = .str ⟨#[c]⟩ := by
              unfold chD at hx
              rw [List.getElem?_map, Array.getElem?_toList, hc] at hx
              exact (Option.some.inj hx).symm
            subst this
            obtain ⟨F2, O2, R2⟩ := R2
            exact R2.pushD (.str _ (by show (1 : Nat) ≤ sizeLine; decide))
      · have nz : ∀ z, a ≠ .d (.str z) := fun z e => hz ⟨z, e⟩
        cases et : a.tup? with
        | some ys => exact .inr (.inl (tup ys et))
        | none =>
          have : a.lst? e = some xs := by
            have z : a.seq? e = a.lst? e := seq_lst et nz
            rw [← z]; exact es
          exact .inl (lst xs et nz this)
theorem wd_rng {lo : Int} {n : Nat} : WDk K B .d (Itr lo n) [] [] (fun _ => some (intsD lo n)) := by
  intro i σ2 env2 us ue ts2 te2 H2 xs2 hl R2 hrd
  cases hrd
  have ln : (intsD lo n).length = n := by unfold intsD; rw [List.length_map, List.length_range]
  refine ⟨fun hi => ?_, fun x hx => ?_⟩
  · rw [hi, ln]; exact walk_range.stops H2 trivial
  · have il := (List.getElem?_eq_some_iff.mp hx).1
    rw [ln] at il
    refine ⟨walk_range.goes i H2 il trivial, fun w H3 hy => ?_⟩
    obtain ⟨rfl, rfl⟩ := walk_range.yields i H2 w H3 il trivial hy
    have : x = .int (lo + i) := by
      unfold intsD at hx
      rw [List.getElem?_map, List.getElem?_range il] at hx
      exact (Option.some.inj hx).symm
    subst this
    obtain ⟨F2, O2, R2⟩ := R2
    exact R2.pushD (.int _)
theorem si_rng1 {t : TE} {m : ME} (h : SE K B W t m) : SI K B W .d (iRng1 (tCons t tNil)) (mRng1 m) := by
  intro σ env ts te H R0 R p
  refine h σ env ts te H _ R ?_
  have p : PI' K B W .d σ ts te R0 ((m env te).bind fun a e => match a with | .d (.int j) => if -(2 ^ 62) ≤ j ∧ j < 2 ^ 62 then .ok ([], fun _ => some (intsD 0 j.toNat)) e else .bad | _ => .bad) := p
  cases q : m env te with
  | ex x e => rw [q] at p; exact p
  | bad => rw [q] at p; exact p
  | ok a e =>
    rw [q] at p
    simp only [Rs.bind_ok] at p
    intro v H1 R1
    split at p
    · rename_i j
      split at p
      · rename_i hj
        obtain ⟨F1, O1, R1⟩ := R1
        have c : Dn K F1 v (.int j) := R1.tm.1
        cases c
        exact ⟨j, rfl, hj.1, hj.2, p _ [] H1 rfl R1.pop.rel wd_rng⟩
      · exact False.elim p
    · exact False.elim p
theorem si_rng2 {ta tb : TE} {ma mb : ME} (ha : SE K B W ta ma) (hb : SE K B W tb mb) : SI K B W .d (iRng2 (tCons ta (tCons tb tNil))) (mRng2 ma mb) := by
  intro σ env ts te H R0 R p
  refine ha σ env ts te H _ R ?_
  unfold mRng2 at p
  cases q : ma env te with
  | ex x e => rw [q] at p; exact p
  | bad => rw [q] at p; exact p
  | ok a e =>
    rw [q] at p
    simp only [Rs.bind_ok] at p
    intro v H1 R1
    refine hb σ e _ _ H1 _ R1 ?_
    cases q2 : mb e (a :: te) with
    | ex x e2 => rw [q2] at p; exact XPost.push p v a
    | bad => rw [q2] at p; exact p
    | ok b e2 =>
      rw [q2] at p
      simp only [Rs.bind_ok] at p
      intro u H2 R2
      split at p
      · rename_i i j
        split at p
        · rename_i hj
          obtain ⟨F1, O1, R2⟩ := R2
          have c : Dn K F1 u (.int j) := R2.tm.1
          have c' : Dn K F1 v (.int i) := R2.tm.2.1
          cases c
          cases c'
          exact ⟨i, j, rfl, hj, p _ [] H2 rfl R2.pop.pop.rel wd_rng⟩
        · exact False.elim p
      · exact False.elim p
theorem enumD_get {xs : List Dt} {i : Nat} {x : Dt} (h : (enumD xs)[i]? = some x) : ∃ y, xs[i]? = some y ∧ x = .tuple [.int i, y] := by
  unfold enumD at h
  rw [List.getElem?_map, List.getElem?_zipIdx] at h
  cases q : xs[i]? with
  | none => rw [q] at h; cases h
  | some y =>
    rw [q] at h
    refine ⟨y, rfl, ?_⟩
    have := (Option.some.inj h).symm
    simpa using this
theorem enumD_len (xs : List Dt) : (enumD xs).length = xs.length := by unfold enumD; rw [List.length_map, List.length_zipIdx]
theorem si_enT {t : TE} {m : ME} (h : SE K B W t m) : SI K B W kdQ (iEnumT K (tCons t tNil)) (mEnT m) := by
  intro σ env ts te H R0 R p
  refine h σ env ts te H _ R ?_
  unfold mEnT at p
  cases q : m env te with
  | ex x e => rw [q] at p; exact p
  | bad => rw [q] at p; exact p
  | ok a e =>
    rw [q] at p
    simp only [Rs.bind_ok] at p
    intro v H1 R1
    cases et : a.tup? with
    | none => simp only [et] at p; exact False.elim p
    | some xs =>
      simp only [et] at p
      obtain ⟨F1, O1, R1⟩ := R1
      obtain ⟨b, vs, rfl, sq, _, d⟩ := cell_tup R1 R1.tm.1 et
      refine ⟨b, vs, rfl, sq, p _ [_] H1 rfl R1.rel ?_⟩
      intro i σ2 env2 us ue ts2 te2 H2 xs2 hl R2 hrd
      cases hrd
      obtain ⟨F2, O2, j2, R2, c2⟩ := wd_cell hl R2
      obtain ⟨b2, vs2, e2, sq2, _, d2⟩ := cell_tup R2 c2 et
      cases e2
      refine ⟨fun hi => ?_, fun x hx => ?_⟩
      · rw [hi, enumD_len, ← d2.length]; exact (walk_enumT (xs := vs2)).stops H2 sq2
      · have il := (List.getElem?_eq_some_iff.mp hx).1
        rw [enumD_len] at il
        refine ⟨(walk_enumT (xs := vs2)).goes i H2 (by rw [d2.length]; exact il) sq2, fun w H3 hy => ?_⟩
        obtain ⟨T, x1, y1, rfl, nT, rfl, e1, e3⟩ := (walk_enumT (xs := vs2)).yields i H2 w H3 (by rw [d2.length]; exact il) sq2 hy
        obtain ⟨y, hy2, rfl⟩ := enumD_get hx
        obtain ⟨y', hy', dy⟩ := d2.getV e3
        rw [hy2] at hy'
        cases hy'
        cases e1
        exact R2.pushQ nT (.cons (.int _) (.cons dy .nil))
end
end Tw

namespace Tw
open PySem PySem.Spec PyProof.Rows L2
/-! ### an expression that changes nothing -/
def viewA (env : Env) : A → Option A
  | .d x => some (.d x)
  | .sc ns => some (.sc ns)
  | .q xs => some (.q xs)
  | .lk kvs => some (.d (.dict kvs))
  | .xr _ => none
  | .own o => o.dt.map .d
  | .io o => o.dt.map .d
  | .rf i p => ((A.rf i p).val env).map .d
def viewE (env : Env) : Env := env.map fun c => c.bind (viewA env)
def mPure (m : ME) : ME := fun env _ => match m (viewE env) [] with
  | .ok (.d x) _ => if tupD x = true then .ok (.d x) env else .bad
  | .ok (.own o) _ => if o.tup = true then .ok (.own o) env else .bad
  | _ => .bad
/-- the slot j holds a dict -/
def isDict (env : Env) (j : Nat) : Bool := match env[j]? with
  | some (some (.d (.dict _))) => true
  | _ => match owAt env j with
    | some (.dc _) => true
    | some (.dl _) => true
    | _ => false
def mPureK (j : Nat) (m : ME) : ME := fun env te => if isDict env j = true then mPure m env te else .bad
section
variable {K : KW} {B : Bs} {W : WX}
section
variable {F : Hp} {a : Addr} {od : Obj} {us : List (Key × V)}
mutual
theorem Dn.lock (h : F a = some (.dK us)) : ∀ {v : V} {d : Dt}, Dn K F v d → Dn K (upd F a (.frz od (.dK us))) v d
  | _, _, .non => .non
  | _, _, .bl b => .bl b
  | _, _, .int i => .int i
  | _, _, .str x h => .str x h
  | _, _, .lst g hs => .lst (by rw [upd_ne (fun z => by rw [z, h] at g; cases g)]; exact g) (DnAll.lock h hs)
  | _, _, .tup g hs => .tup (by
      rcases g with ⟨ob, g, d⟩ | g
      · exact .inl ⟨ob, by rw [upd_ne (fun z => by rw [z, h] at g; cases g)]; exact g, d⟩
      · exact .inr g) (DnAll.lock h hs)
  | _, _, .dct (a := b) (kvs := kvs) g hs => .dct (by
      by_cases e : b = a
      · subst e
        rcases g with g | ⟨o, g⟩
        · rw [h] at g
          cases g
          exact .inr ⟨od, upd_same⟩
        · rw [h] at g; cases g
      · rcases g with g | ⟨o, g⟩
        · exact .inl (by rw [upd_ne e]; exact g)
        · exact .inr ⟨o, by rw [upd_ne e]; exact g⟩) (DnKs.lock h hs)
theorem DnAll.lock (h : F a = some (.dK us)) : ∀ {vs : List V} {ds : List Dt}, DnAll K F vs ds → DnAll K (upd F a (.frz od (.dK us))) vs ds
  | _, _, .nil => .nil
  | _, _, .cons g hs => .cons (Dn.lock h g) (DnAll.lock h hs)
theorem DnKs.lock (h : F a = some (.dK us)) : ∀ {vs : List (Key × V)} {ds : List (Dt × Dt)}, DnKs K F vs ds → DnKs K (upd F a (.frz od (.dK us))) vs ds
  | _, _, .nil => .nil
  | _, _, .cons g hs => .cons (Dn.lock h g) (DnKs.lock h hs)
end
end
section
variable {F H : Hp} {O : Addr → Option Nat} {σ : List (Option V)} {env : Env} {ts : List V} {te : List A}
end
/-! ### the keys of a dict that is locked -/
def viewK (env : Env) (j : Nat) : Env := match (viewE env)[j]? with
  | some (some (.d (.dict kvs))) => (viewE env).set j (some (.lk kvs))
  | _ => viewE env
def mPureL (j : Nat) (m : ME) : ME := fun env _ => if isDict env j = true then (match m (viewK env j) [] with
  | .ok (.d x) _ => if tupD x = true then .ok (.d x) env else .bad
  | .ok (.own o) _ => if o.tup = true then .ok (.own o) env else .bad
  | _ => .bad) else .bad
def mKI (j : Nat) : MI := fun env te => match env[j]? with
  | some (some (.lk kvs)) => if (kvs.all fun q => flatD q.1) = true then .ok ([.lk kvs], fun _ => some (kvs.map (·.1))) env else .bad
  | _ => .bad
end
end Tw

namespace Tw
open PySem PySem.Spec PyProof.Rows L2
/-! ### dicts -/
def keyD : Dt → Option Key
  | .int i => some (.inl i)
  | .str s => some (.inr s)
  | _ => none
def lkDD (kvs : List (Dt × Dt)) (k : Key) : Option Dt := (kvs.find? fun q => decide (keyD q.1 = some k)).map (·.2)
/-- what stands at a key of a dict: nothing, a datum, or a list of the dict's own -/
inductive Dg where
  | no
  | dt (x : Dt)
  | li
def dgO (env : Env) (a : A) (k : Key) : Option Dg := match a with
  | .d (.dict kvs) => some (match lkDD kvs k with | some x => .dt x | none => .no)
  | .lk kvs => some (match lkDD kvs k with | some x => .dt x | none => .no)
  | .rf i none => match owAt env i with
    | some (.dc kvs) => some (match lkD kvs k with | some x => .dt x | none => .no)
    | some (.dl kvs) => some (match lkD kvs k with | some _ => .li | none => .no)
    | _ => none
  | _ => none
def dgA (env : Env) (a b : A) : Rs A := match (b.val env).bind keyD with
  | some k => (match dgO env a k with
    | some (.dt x) => .ok (.d x) env
    | some .li => (match a with
      | .rf i none => .ok (.rf i (some k)) env
      | _ => .bad)
    | _ => .bad)
  | none => .bad
def dinA (neg : Bool) (env : Env) (b a : A) : Rs A := match (b.val env).bind keyD with
  | some k => (match dgO env a k with
    | some .no => .ok (.d (.bool neg)) env
    | some _ => .ok (.d (.bool (!neg))) env
    | none => .bad)
  | none => .bad
def isDct (env : Env) (a : A) : Bool := match a with
  | .d (.dict _) => true
  | .lk _ => true
  | .rf i none => match owAt env i with
    | some (.dc _) => true
    | some (.dl _) => true
    | _ => false
  | _ => false
def mDGet2 (md mk mx : ME) : ME := fun env te => (md env te).bind fun a e1 => if isDct e1 a = true then (mk e1 (a :: te)).bind fun b e2 => (mx e2 (b :: a :: te)).bind fun c e3 => (match (b.val e3).bind keyD, c with
    | some k, .d y => (match dgO e3 a k with
      | some (.dt x) => .ok (.d x) e3
      | some .no => .ok (.d y) e3
      | _ => .bad)
    | _, _ => .bad) else .bad
def keysA (env : Env) (a : A) : Rs A := match a with
  | .rf i none => match owAt env i with
    | some (.dc kvs) => if (kvs.all fun q => flatD (kD q.1)) = true then .ok (.own (.l (kvs.map fun q => kD q.1))) env else .bad
    | some (.dl kvs) => if (kvs.all fun q => flatD (kD q.1)) = true then .ok (.own (.l (kvs.map fun q => kD q.1))) env else .bad
    | _ => .bad
  | _ => .bad
section
variable {K : KW} {B : Bs} {W : WX}
theorem keyD_kV {F : Hp} {v : V} {x : Dt} {k : Key} (d : Dn K F v x) (h : keyD x = some k) : v = kV k := by
  cases d <;> cases h <;> rfl
theorem keyD_kD (k : Key) : keyD (kD k) = some k := by cases k <;> rfl
theorem dnks_lk {F : Hp} : ∀ {us : List (Key × V)} {kvs : List (Dt × Dt)} (d : DnKs K F us kvs) (k : Key), (∀ x, lkDD kvs k = some x → ∃ v, valV us k = some v ∧ Dn K F v x) ∧ (lkDD kvs k = none → valV us k = none)
  | _, _, .nil, _ => ⟨(fun x h => nomatch h), fun _ => rfl⟩
  | _, _, .cons (k := k') (v := v) h r, k => by
    have ih := dnks_lk r k
    unfold lkDD valV
    rw [List.find?_cons, List.find?_cons]
    simp only [keyD_kD]
    by_cases c : k' = k
    · rw [decide_eq_true c, decide_eq_true (by rw [c])]
      exact ⟨fun x z => ⟨v, rfl, by cases z; exact h⟩, fun z => nomatch z⟩
    · rw [decide_eq_false c, decide_eq_false (fun z => c (Option.some.inj z))]
      exact ih
/-- what a dict's answer means -/
theorem dg_ok {σ : L2.St} {env : Env} {ts : List V} {te : List A} {F H : Hp} {O : Addr → Option Nat} {j : Nat} {v : V} {a : A} {k : Key} {g : Dg} (R : RelF K B F O σ env ts te H) (c : CellO K B F H O σ j v a) (h : dgO env a k = some g) :
    ∃ p us, v = .ref p ∧ Rd H p (.dK us) ∧ (match g with
      | .no => valV us k = none
      | .dt x => ∃ w, valV us k = some w ∧ Dn K F w x
      | .li => ∃ i w, a = .rf i none ∧ valV us k = some w ∧ σ[i]? = some (some v) ∧ O p = some i ∧ H p = some (.dK us)) := by
  have fromD : ∀ {kvs : List (Dt × Dt)} {p : Addr} {us : List (Key × V)}, v = .ref p → Rd H p (.dK us) → DnKs K F us kvs → (some (match lkDD kvs k with | some x => Dg.dt x | none => .no)) = some g → ∃ p us, v = .ref p ∧ Rd H p (.dK us) ∧ (match g with
      | .no => valV us k = none
      | .dt x => ∃ w, valV us k = some w ∧ Dn K F w x
      | .li => ∃ i w, a = .rf i none ∧ valV us k = some w ∧ σ[i]? = some (some v) ∧ O p = some i ∧ H p = some (.dK us)) := fun {kvs p us} e r d h => by
    refine ⟨p, us, e, r, ?_⟩
    obtain ⟨h1, h2⟩ := dnks_lk d k
    cases q : lkDD kvs k with
    | none => rw [q] at h; cases h; exact h2 q
    | some x => rw [q] at h; cases h; exact h1 x q
  cases a with
  | d x =>
    cases x with
    | dict kvs =>
      have c : Dn K F v (.dict kvs) := c
      cases c with
      | dct r d => exact fromD rfl (Same.rd R.sf r) d h
    | _ => cases h
  | lk kvs =>
    obtain ⟨p, o, us, e, hb, d⟩ := c
    exact fromD e (.inr ⟨o, R.sf _ _ (R.b1 _ _ hb)⟩) (d.same R.b1) h
  | rf i pt =>
    cases pt with
    | some _ => cases h
    | none =>
      obtain ⟨w, hw, e⟩ := id c
      have e : v = w := e
      subst e
      cases eo : owAt env i with
      | none => simp only [dgO, eo] at h; cases h
      | some o =>
        have own := R.owAt eo hw
        cases o with
        | l _ => simp only [dgO, eo] at h; cases h
        | ll _ => simp only [dgO, eo] at h; cases h
        | x _ => simp only [dgO, eo] at h; cases h
        | dc kvs =>
          simp only [dgO, eo] at h
          obtain ⟨p, us, e1, op, hp, pr⟩ := own
          refine ⟨p, us, e1, .inl hp, ?_⟩
          obtain ⟨h1, h2⟩ := paired_lk (R := Dn K F) pr k
          cases q : lkD kvs k with
          | none => rw [q] at h; cases h; exact h2 q
          | some x => rw [q] at h; cases h; exact h1 x q
        | dl kvs =>
          simp only [dgO, eo] at h
          obtain ⟨p, us, e1, op, hp, _, _, pr⟩ := own
          refine ⟨p, us, e1, .inl hp, ?_⟩
          obtain ⟨h1, h2⟩ := paired_lk (R := OwL K F H fun a => O a = some i) pr k
          cases q : lkD kvs k with
          | none => rw [q] at h; cases h; exact h2 q
          | some x =>
            rw [q] at h
            cases h
            obtain ⟨w, hw2, _⟩ := h1 x q
            exact ⟨i, w, rfl, hw2, hw, op, hp⟩
  | _ => cases h
theorem se_dnew : SE K B W tDNewK (fun env _ => .ok (.own (.dc [])) env) := by
  intro σ env ts te H Q R p l nl
  obtain ⟨F, O, R⟩ := R
  exact p _ _ ⟨F, _, R.newL nl (o := .dK []) (mutO_dK []) (w := .dc []) fun own hp => ⟨l, [], rfl, hp, upd_same, .nil⟩⟩
end
end Tw

namespace Tw
open PySem PySem.Spec PyProof.Rows L2
/-! ### dicts and lists of lists changed -/
def dropD {α : Type} (kvs : List (Key × α)) (k : Key) : List (Key × α) := kvs.filter fun kv => decide (kv.1 ≠ k)
section
variable {K : KW} {B : Bs} {W : WX} {F H : Hp}
theorem paired_get' {α β : Type} {R : α → β → Prop} : ∀ {xs : List α} {ys : List β} {i : Nat} {x : α}, Paired R xs ys → xs[i]? = some x → ∃ y, ys[i]? = some y ∧ R x y
  | _, _, _, _, .nil, e => by cases e
  | _, _, 0, _, .cons h _, e => ⟨_, rfl, by cases e; exact h⟩
  | _, _, i + 1, _, .cons _ r, e => paired_get' (i := i) r e
theorem paired_any {α : Type} {R : V → α → Prop} {us : List (Key × V)} {kvs : List (Key × α)} (p : Paired (fun (p : Key × V) (q : Key × α) => p.1 = q.1 ∧ R p.2 q.2) us kvs) (k : Key) : (us.any fun kv => decide (kv.1 = k)) = (kvs.any fun kv => decide (kv.1 = k)) := by
  induction p with
  | nil => rfl
  | cons h _ ih => rw [List.any_cons, List.any_cons, ih, h.1]
theorem paired_put {α : Type} {R : V → α → Prop} {us : List (Key × V)} {kvs : List (Key × α)} {k : Key} {v : V} {x : α} (p : Paired (fun (p : Key × V) (q : Key × α) => p.1 = q.1 ∧ R p.2 q.2) us kvs) (h : R v x) :
    Paired (fun (p : Key × V) (q : Key × α) => p.1 = q.1 ∧ R p.2 q.2) (putK us k v) (putD kvs k x) := by
  have mp : ∀ {us : List (Key × V)} {kvs : List (Key × α)}, Paired (fun (p : Key × V) (q : Key × α) => p.1 = q.1 ∧ R p.2 q.2) us kvs → Paired (fun (p : Key × V) (q : Key × α) => p.1 = q.1 ∧ R p.2 q.2) (us.map fun kv => if kv.1 = k then (kv.1, v) else kv) (kvs.map fun kv => if kv.1 = k then (kv.1, x) else kv) := by
    intro us kvs p
    induction p with
    | nil => exact .nil
    | cons g _ ih2 =>
      rw [List.map_cons, List.map_cons]
      refine .cons ?_ ih2
      rw [g.1]
      split
      · exact ⟨rfl, h⟩
      · exact g
  unfold putK putD
  rw [paired_any p k]
  split
  · exact mp p
  · exact paired_appR p ⟨rfl, h⟩
theorem keys_put {α : Type} {us : List (Key × α)} {k : Key} {v : α} : (putD us k v).map (·.1) = if (us.any fun kv => decide (kv.1 = k)) = true then us.map (·.1) else us.map (·.1) ++ [k] := by
  unfold putD
  split
  · rw [List.map_map]
    refine List.map_congr_left fun q _ => ?_
    show (if q.1 = k then (q.1, v) else q).1 = q.1
    split <;> rfl
  · rw [List.map_append]; rfl
theorem putK_putD (us : List (Key × V)) (k : Key) (v : V) : putK us k v = putD us k v := rfl
theorem nodup_put {us : List (Key × V)} {k : Key} {v : V} (h : (us.map (·.1)).Nodup) : ((putK us k v).map (·.1)).Nodup := by
  rw [putK_putD, keys_put]
  split
  · exact h
  · rename_i c
    rw [List.nodup_append]
    refine ⟨h, List.pairwise_singleton _ _, fun a ha b hb e => c ?_⟩
    rw [List.mem_singleton.mp hb] at e
    obtain ⟨q, hq, eq⟩ := List.mem_map.mp ha
    exact List.any_eq_true.mpr ⟨q, hq, decide_eq_true (eq.trans e)⟩
theorem nodup_putV : ∀ {us : List (Key × V)} {k : Key} {v : V}, (us.map (·.2)).Nodup → (us.map (·.1)).Nodup → v ∉ us.map (·.2) → ((putK us k v).map (·.2)).Nodup := by
  intro us k v h1 h2 h3
  unfold putK
  split
  · rename_i hany
    clear hany
    induction us with
    | nil => exact List.nodup_nil
    | cons q r ih =>
      have n1 := List.nodup_cons.mp (show (q.2 :: r.map (·.2)).Nodup from h1)
      have n2 := List.nodup_cons.mp (show (q.1 :: r.map (·.1)).Nodup from h2)
      have h3' : v ∉ r.map (·.2) := fun z => h3 (List.mem_cons_of_mem _ z)
      rw [List.map_cons, List.map_cons]
      by_cases c : q.1 = k
      · -- no other has this key
        have same : ∀ {r : List (Key × V)}, k ∉ r.map (·.1) → (r.map fun kv => if kv.1 = k then (kv.1, v) else kv) = r := by
          intro r
          induction r with
          | nil => intro _; rfl
          | cons y r ih2 =>
            intro hn
            rw [List.map_cons, ih2 (fun z => hn (List.mem_cons_of_mem _ z)), if_neg (fun z => hn (by rw [← z]; exact List.mem_cons_self))]
        rw [if_pos c, same (by rw [← c]; exact n2.1)]
        exact List.nodup_cons.mpr ⟨h3', n1.2⟩
      · rw [if_neg c]
        refine List.nodup_cons.mpr ⟨fun z => ?_, ih n1.2 n2.2 h3'⟩
        obtain ⟨y, hy, ey⟩ := List.mem_map.mp z
        obtain ⟨w, hw, ew⟩ := List.mem_map.mp hy
        by_cases cw : w.1 = k
        · rw [if_pos cw] at ew
          rw [← ew] at ey
          exact h3 (by rw [show v = q.2 from ey]; exact List.mem_cons_self)
        · rw [if_neg cw] at ew
          rw [← ew] at ey
          exact n1.1 (List.mem_map.mpr ⟨w, hw, ey⟩)
  · rw [List.map_append]
    rw [List.nodup_append]
    refine ⟨h1, List.pairwise_singleton _ _, fun a ha b hb e => h3 ?_⟩
    rw [List.mem_singleton.mp hb] at e
    have e : a = v := e
    rw [← e]; exact ha
theorem mem_putV {us : List (Key × V)} {k : Key} {v w : V} (h : w ∈ (putK us k v).map (·.2)) : w = v ∨ w ∈ us.map (·.2) := by
  unfold putK at h
  split at h
  · obtain ⟨y, hy, ey⟩ := List.mem_map.mp h
    obtain ⟨q, hq, eq⟩ := List.mem_map.mp hy
    split at eq
    · rw [← eq] at ey; exact .inl ey.symm
    · rw [← eq] at ey; exact .inr (List.mem_map.mpr ⟨q, hq, ey⟩)
  · rw [List.map_append] at h
    rcases List.mem_append.mp h with h | h
    · exact .inr h
    · exact .inl (List.mem_singleton.mp h)
end
def ownTo (c : A) (i : Nat) : Option Nat := match c with
  | .own _ => some i
  | _ => none
def putO (o : Ow) (k : Key) (c : A) : Option Ow := match o, c with
  | .dc kvs, .d y => if kvs.length < sizeLine then some (.dc (putD kvs k y)) else none
  | .dc [], .own (.l ys) => some (.dl [(k, ys)])
  | .dl kvs, .own (.l ys) => if kvs.length < sizeLine then some (.dl (putD kvs k ys)) else none
  | _, _ => none
/-- names that refer to the entry k of what slot i owns are forgotten -/
def wipeK (i : Nat) (k : Key) (e : Env) : Env := e.map fun c => match c with
  | some a => if isNestK i k a = true then none else some a
  | none => none
def putA (e : Env) (te : List A) (a b c : A) : Option Env := match (b.val e).bind keyD, a with
  | some k, .rf i none => (match (wipeK i k e)[i]?, owAt (wipeK i k e) i with
    | some (some ca), some o => if anyC (isNestK i k) (wipeK i k e) te = false then (putO o k c).map fun o' => (wipeK i k e).set i (some (reOw ca o')) else none
    | _, _ => none)
  | _, _ => none
def mPut (mv md mk : ME) : MS := fun env te => (mv env te).fl fun c e => (md e (c :: te)).fl fun a e1 => (mk e1 (a :: c :: te)).fl fun b e2 => match putA e2 te a b c with
  | some e' => .nx e'
  | none => .bad
section
variable {K : KW} {B : Bs} {W : WX} {F H : Hp} {O : Addr → Option Nat} {σ : List (Option V)} {env : Env} {ts : List V} {te : List A}
/-- what the slot i owns takes in what the top owns -/
theorem rel_give {u v : V} {i : Nat} {c : A} {o o' : Ow} {ca : A} {p : Addr} {ob : HO} (R : RelF K B F O σ env (v :: ts) (c :: te) H) (hw : σ[i]? = some (some u)) (ea : env[i]? = some (some ca)) (eo : owAt env i = some o) (op : O p = some i) (mo : MutO (some ob))
    (newO : ∀ own' : Addr → Prop, (∀ b, O b = some i ∨ (∃ w, c = .own w ∧ O b = some (σ.length + ts.length)) → own' b) → OwO K F (upd H p ob) own' u o')
    (hnest : ∀ O' : Addr → Option Nat, O' p = some i → ∀ k' w, anyC (isNestK i k') env te = true → atP H O i u w (some k') → atP (upd H p ob) O' i u w (some k')) : Rel K B σ (env.set i (some (reOw ca o'))) ts te (upd H p ob) := by
  have ln := R.ln
  have il : i < σ.length := (List.getElem?_eq_some_iff.mp hw).1
  let O' : Addr → Option Nat := fun b => if O b = some (σ.length + ts.length) then ownTo c i else O b
  have R2 := R.pop
  have hpn : O p ≠ some (σ.length + ts.length) := by rw [op]; exact fun z => by have := Option.some.inj z; omega
  have o1 : ∀ b j, O b = some j → j ≠ σ.length + ts.length → O' b = some j := fun b j z nj => (if_neg (by rw [z]; exact fun y => nj (Option.some.inj y))).trans z
  have hio : ∀ o0, ca = .io o0 → ∃ o'0, reOw ca o' = .io o'0 := fun o0 e => ⟨o', by rw [e]; rfl⟩
  have unp : ∀ b j, (if O b = some (σ.length + ts.length) then none else O b) = some j → O b = some j ∧ j ≠ σ.length + ts.length := fun b j z => by
    split at z
    · cases z
    · rename_i hb; exact ⟨z, fun y => hb (by rw [z, y])⟩
  refine ⟨F, O', R2.chg (O' := O') (H' := upd H p ob) (F' := F) ea hw (Same.refl F) (fun b x e => ?_) (fun j b nj z => ?_) (fun b j z => ?_) (fun b z => ?_) (fun b x hs hB hHb => ?_) (fun b x nb z => ?_) (fun b hb => ?_) (fun b h1 h2 => absurd h1 h2) ?_ hio (fun k' w hany hat => ?_)⟩
  · rw [upd_ne (fun z => by rw [z, (R.of p i op).1] at e; cases e)]
    exact R.sf b x e
  · obtain ⟨z1, nn2⟩ := unp b j z
    exact ⟨o1 b j z1 nn2, upd_ne (fun y => by rw [y, op] at z1; exact nj (Option.some.inj z1).symm), (R.of b j z1).1⟩
  · have z : (if O b = some (σ.length + ts.length) then ownTo c i else O b) = some j := z
    show j = i ∨ (if O b = some (σ.length + ts.length) then none else O b) = some j
    by_cases hb : O b = some (σ.length + ts.length)
    · rw [if_pos hb] at z
      cases c <;> first | (cases z; exact .inl rfl) | cases z
    · rw [if_neg hb] at z ⊢
      exact .inr z
  · have z : (if O b = some (σ.length + ts.length) then ownTo c i else O b) = some i := z
    have mu : ∀ j, O b = some j → MutO (upd H p ob b) := fun j zj => by
      by_cases hb : b = p
      · rw [hb, upd_same]; exact mo
      · rw [upd_ne hb]; exact (R.of b j zj).2.1
    by_cases hb : O b = some (σ.length + ts.length)
    · obtain ⟨q1, q2, q3, q4⟩ := R.of b _ hb
      refine ⟨q1, mu _ hb, .inl ?_⟩
      rcases q4 with y | y
      · exact y
      · obtain ⟨o9, h9⟩ := R.bi _ y.2
        have := (List.getElem?_eq_some_iff.mp h9).1
        omega
    · rw [if_neg hb] at z
      obtain ⟨q1, q2, q3, q4⟩ := R.of b _ z
      exact ⟨q1, mu _ z, q4⟩
  · by_cases hb : b = p
    · subst hb
      rcases (R.of b i op).2.2.2 with y | y
      · exact absurd y hB
      · rw [y.1] at hs; cases hs
    · rw [upd_ne hb]; exact hHb
  · have nb : (if O b = some (σ.length + ts.length) then none else O b) = none := nb
    rw [upd_ne (fun y => by
      rw [y] at nb
      by_cases hb : O p = some (σ.length + ts.length)
      · rw [op] at hb
        have := (List.getElem?_eq_some_iff.mp hw).1
        have := Option.some.inj hb
        omega
      · rw [if_neg hb, op] at nb
        cases nb)]
    exact z
  · by_cases hb2 : b = p
    · rw [hb2, upd_same]; exact nofun
    · rw [upd_ne hb2]; exact hb
  · have od : ∀ b, O b = some i ∨ (∃ w, c = .own w ∧ O b = some (σ.length + ts.length)) → O' b = some i := fun b z => by
      rcases z with z | ⟨w, ew, z⟩
      · exact o1 b i z (by omega)
      · have z9 : O' b = ownTo c i := if_pos z
        rw [z9, ew]
        rfl
    rcases owAt_cell eo with e2 | e2
    · rw [ea] at e2
      cases e2
      refine newO _ fun b z => ⟨od b z, ?_⟩
      rcases z with z | ⟨w, ew, z⟩
      · rcases (R.of b i z).2.2.2 with y | y
        · exact y
        · obtain ⟨o9, h9⟩ := R.bi i y.2
          rw [ea] at h9
          cases h9
      · rcases (R.of b _ z).2.2.2 with y | y
        · exact y
        · obtain ⟨o9, h9⟩ := R.bi _ y.2
          have := (List.getElem?_eq_some_iff.mp h9).1
          omega
    · rw [ea] at e2
      cases e2
      obtain ⟨w', hw', c'⟩ := R.sl i _ ea
      rw [hw] at hw'
      cases hw'
      exact ⟨newO _ od, c'.2⟩
  · refine hnest O' (o1 p i op (by omega)) k' w hany (hat.mono fun _ b z => ?_)
    exact ⟨(unp b i z).1, rfl⟩
/-- a dict with a further entry -/
theorem rel_put {u v : V} {i : Nat} {k : Key} {c : A} {e' : Env} {o : Ow} {ca : A} (R : RelF K B F O σ env (v :: ts) (c :: te) H) (hw : σ[i]? = some (some u)) (ea : env[i]? = some (some ca)) (eo : owAt env i = some o) (nn : anyC (isNestK i k) env te = false)
    (hp : (putO o k c).map (fun o' => env.set i (some (reOw ca o'))) = some e') : ∃ p us, u = .ref p ∧ H p = some (.dK us) ∧ us.length < sizeLine ∧ Rel K B σ e' ts te (upd H p (.dK (putK us k v))) := by
  have own := R.owAt eo hw
  have ln := R.ln
  have il : i < σ.length := (List.getElem?_eq_some_iff.mp hw).1
  cases eq : putO o k c with
  | none => rw [eq] at hp; cases hp
  | some o' =>
    rw [eq] at hp
    cases hp
    -- the general step
    have step : ∀ (p : Addr) (us : List (Key × V)), u = .ref p → O p = some i → H p = some (.dK us) → (∀ own' : Addr → Prop, (∀ b, O b = some i ∨ (∃ w, c = .own w ∧ O b = some (σ.length + ts.length)) → own' b) → OwO K F (upd H p (.dK (putK us k v))) own' u o') →
        Rel K B σ (env.set i (some (reOw ca o'))) ts te (upd H p (.dK (putK us k v))) := by
      intro p us eu op hpp newO
      refine rel_give R hw ea eo op (mutO_dK _) newO fun O' oO k' w hany hat => ?_
      obtain ⟨a2, e2, o2, h2⟩ := hat
      have kk : k' ≠ k := fun z => by rw [z, nn] at hany; cases hany
      rw [eu] at e2
      cases e2
      refine ⟨p, eu, oO, ?_⟩
      rcases h2 with ⟨vs2, m, em, m0, hv2, hm⟩ | ⟨us2, hu2, hval⟩
      · rw [hpp] at hv2; cases hv2
      · rw [hpp] at hu2
        cases hu2
        refine .inr ⟨_, upd_same, ?_⟩
        rw [valV_put, if_neg kk]
        exact hval
    cases o with
    | l _ => cases c <;> cases eq
    | ll _ => cases c <;> cases eq
    | x _ => cases c <;> cases eq
    | dc kvs =>
      obtain ⟨p, us, eu, op, hpp, pr⟩ := own
      have lk := pr.length
      have data : ∀ y, c = .d y → ∃ p us, u = .ref p ∧ H p = some (.dK us) ∧ us.length < sizeLine ∧ Rel K B σ (env.set i (some (reOw ca o'))) ts te (upd H p (.dK (putK us k v))) := fun y ec => by
        subst ec
        unfold putO at eq
        simp only at eq
        split at eq
        · rename_i hz
          cases eq
          refine ⟨p, us, eu, hpp, by rw [lk]; exact hz, step p us eu op hpp fun own' ho => ⟨p, _, eu, ho p (.inl op), upd_same, paired_put (R := Dn K F) pr R.tm.1⟩⟩
        · cases eq
      cases c with
      | d y => exact data y rfl
      | own w =>
        cases w with
        | l ys =>
          cases kvs with
          | nil =>
            cases eq
            cases pr
            refine ⟨p, [], eu, hpp, by decide, step p [] eu op hpp fun own' ho => ?_⟩
            obtain ⟨q, vs, ev, oq, hq, d⟩ := R.tm.1
            subst ev
            have nq : q ≠ p := fun z => by rw [z, op] at oq; have := Option.some.inj oq.1; omega
            refine ⟨p, [(k, .ref q)], eu, ho p (.inl op), upd_same, ⟨List.pairwise_singleton _ _, List.pairwise_singleton _ _⟩, fun z => nq (V.ref.inj (List.mem_singleton.mp z)).symm, .cons ⟨rfl, q, vs, rfl, ho q (.inr ⟨_, rfl, oq.1⟩), by rw [upd_ne nq]; exact hq, d⟩ .nil⟩
          | cons _ _ => cases eq
        | _ => cases kvs <;> cases eq
      | _ => cases kvs <;> cases eq
    | dl kvs =>
      obtain ⟨p, us, eu, op, hpp, nd, nm, pr⟩ := own
      have lk := pr.length
      cases c with
      | own w =>
        cases w with
        | l ys =>
          unfold putO at eq
          simp only at eq
          split at eq
          · rename_i hz
            cases eq
            obtain ⟨q, vs, ev, oq, hq, d⟩ := R.tm.1
            subst ev
            have nq : q ≠ p := fun z => by rw [z, op] at oq; have := Option.some.inj oq.1; omega
            have memO : ∀ w, w ∈ us.map (·.2) → ∃ a2, w = .ref a2 ∧ O a2 = some i := fun w hm => by
              obtain ⟨z, hz, ez⟩ := List.mem_map.mp hm
              obtain ⟨n, hn⟩ := List.getElem?_of_mem hz
              have nl := (List.getElem?_eq_some_iff.mp hn).1
              obtain ⟨y, hy, _, a2, vs2, e2, o2, _⟩ := paired_get' pr hn
              exact ⟨a2, by rw [← ez]; exact e2, o2⟩
            have nin : V.ref q ∉ us.map (·.2) := fun z => by
              obtain ⟨a2, e2, o2⟩ := memO _ z
              cases e2
              rw [oq.1] at o2
              have := Option.some.inj o2
              omega
            refine ⟨p, us, eu, hpp, by rw [lk]; exact hz, step p us eu op hpp fun own' ho => ⟨p, _, eu, ho p (.inl op), upd_same, ⟨nodup_putV nd.1 nd.2 nin, nodup_put nd.2⟩, fun z => ?_, ?_⟩⟩
            · rcases mem_putV z with z | z
              · exact nq (V.ref.inj z).symm
              · exact nm z
            · refine paired_put (R := OwL K F (upd H p (.dK (putK us k (.ref q)))) own') (L2.Paired.mapP pr fun x y z => ⟨z.1, ?_⟩) ⟨q, vs, rfl, ho q (.inr ⟨_, rfl, oq.1⟩), by rw [upd_ne nq]; exact hq, d⟩
              obtain ⟨a2, vs2, e2, o2, h2, d2⟩ := z.2
              refine ⟨a2, vs2, e2, ho a2 (.inl o2), ?_, d2⟩
              by_cases ha : a2 = p
              · rw [ha, hpp] at h2; cases h2
              · rw [upd_ne ha]; exact h2
          · cases eq
        | _ => cases eq
      | _ => cases eq
theorem wipeK_at {i : Nat} {k : Key} {e : Env} {j : Nat} {a : A} (h : (wipeK i k e)[j]? = some (some a)) : e[j]? = some (some a) := by
  unfold wipeK at h
  rw [List.getElem?_map] at h
  cases c : e[j]? with
  | none => rw [c] at h; cases h
  | some x =>
    rw [c] at h
    cases x with
    | none => cases h
    | some y =>
      have h' : (if isNestK i k y = true then none else some y) = some a := Option.some.inj h
      split at h'
      · cases h'
      · rw [h']
theorem rel_wipeK {F : Hp} {O : Addr → Option Nat} {σ : List (Option V)} {e : Env} {ts : List V} {te : List A} {H : Hp} {i : Nat} {k : Key} (R : RelF K B F O σ e ts te H) : RelF K B F O σ (wipeK i k e) ts te H where
  ln := by
    unfold wipeK
    rw [List.length_map]
    exact R.ln
  sl := fun j a h => R.sl j a (wipeK_at h)
  tm := R.tm
  sf := R.sf
  of := R.of
  b1 := R.b1
  b2 := R.b2
  b3 := R.b3
  b5 := R.b5
  tb := R.tb
  bi := fun j hj => by
    obtain ⟨o, h⟩ := R.bi j hj
    refine ⟨o, ?_⟩
    unfold wipeK
    rw [List.getElem?_map, h]
    rfl
/-! ### lists of lists -/
def appLA : Env → List A → A → List A → Rs A := fun e te o as => match as, o with
  | [.own (.l ys)], .rf i none => (match e[i]?, owAt e i with
    | some (some ca), some (.ll xss) => if xss.length < sizeLine ∧ anyC (isNest i) e te = false then .ok (.d .none) (e.set i (some (reOw ca (.ll (xss ++ [ys]))))) else .bad
    | _, _ => .bad)
  | _, _ => .bad
end
end Tw

namespace Tw
open PySem PySem.Spec PyProof.Rows L2
section
variable {K : KW} {B : Bs} {W : WX} {F H : Hp} {O : Addr → Option Nat} {σ : List (Option V)} {env : Env} {ts : List V} {te : List A}
end
def popLA : Env → List A → A → List A → Rs A := fun e te o as => match as, o with
  | [], .rf i none => (match e[i]?, owAt e i with
    | some (some ca), some (.ll xss) => (match xss[xss.length - 1]? with
      | some ys => if anyC (isNest i) e te = false then .ok (.d (.list ys)) (e.set i (some (reOw ca (.ll xss.dropLast)))) else .bad
      | none => .bad)
    | _, _ => .bad)
  | _, _ => .bad
/-- append, pop of both kinds -/
def orM (f g : Env → List A → A → List A → Rs A) : Env → List A → A → List A → Rs A := fun e te o as => match f e te o as with
  | .bad => g e te o as
  | r => r
section
variable {K : KW} {B : Bs} {W : WX}
/-- [[]] -/
def mNest : ME := fun env _ => .ok (.own (.ll [[]])) env
/-- the top goes into what lies under it -/
theorem RelF.join {F H H' : Hp} {O : Addr → Option Nat} {σ : List (Option V)} {env : Env} {ts : List V} {te : List A} {y w : V} {c : A} {o o' : Ow} (R : RelF K B F O σ env (y :: w :: ts) (c :: .own o :: te) H) (hH : ∀ b, O b ≠ some (σ.length + ts.length) → H' b = H b) (hn : ∀ b, O b = some (σ.length + ts.length) → MutO (H' b))
    (new : OwO K F H' (fun a => (O a = some (σ.length + ts.length) ∨ O a = some (σ.length + ts.length + 1)) ∧ B.H a = none) w o') : RelF K B F (fun b => if O b = some (σ.length + ts.length + 1) then some (σ.length + ts.length) else O b) σ env (w :: ts) (.own o' :: te) H' := by
  have ln := R.ln
  have kb : ∀ j, j < σ.length + ts.length → ∀ b, O b = some j → (fun b => if O b = some (σ.length + ts.length + 1) then some (σ.length + ts.length) else O b) b = some j ∧ H' b = H b := fun j nj b z =>
    ⟨(if_neg (by rw [z]; exact fun q => by have := Option.some.inj q; omega)).trans z, hH b (by rw [z]; exact fun q => by have := Option.some.inj q; omega)⟩
  have rf : ∀ j w, σ[j]? = some (some w) → j < σ.length + ts.length := fun j w e => by have := (List.getElem?_eq_some_iff.mp e).1; omega
  have cm : ∀ {j : Nat} {u : V} {c : A}, CellO K B F H O σ j u c → j < σ.length + ts.length → CellO K B F H' (fun b => if O b = some (σ.length + ts.length + 1) then some (σ.length + ts.length) else O b) σ j u c := fun {j u c} h nj => by
    refine h.mono (Same.refl F) (kb j nj) (fun _ _ => rfl) (fun _ _ _ _ z => z) (fun i k e b z => ?_)
    rw [e] at h
    obtain ⟨w, hw, _⟩ := h
    exact kb i (rf i w hw) b z
  have tm : ∀ {us : List V} {ue : List A}, us.length ≤ ts.length → TmO K B F H O σ us ue → TmO K B F H' (fun b => if O b = some (σ.length + ts.length + 1) then some (σ.length + ts.length) else O b) σ us ue := fun {us} => by
    induction us with
    | nil => intro ue _ h; cases ue with
      | nil => trivial
      | cons => exact h.elim
    | cons u us ih =>
      intro ue hl h
      cases ue with
      | nil => exact h.elim
      | cons x ue =>
        rw [List.length_cons] at hl
        exact ⟨cm h.1 (by omega), ih (by omega) h.2⟩
  have nbH : ∀ b j, O b = some j → σ.length ≤ j → B.H b = none := fun b j zj lj => by
    rcases (R.of b j zj).2.2.2 with y | y
    · exact y
    · obtain ⟨o9, h9⟩ := R.bi _ y.2
      have := (List.getElem?_eq_some_iff.mp h9).1
      omega
  refine ⟨ln, fun j c e => ?_, ⟨?_, tm (Nat.le_refl _) R.tm.2.2⟩, fun b u e => ?_, fun b j z => ?_, R.b1, fun b u hs ht e => ?_, R.b3, fun b e => ?_, R.bi, R.tb.1, R.tb.2.mono fun b o t z => by rw [hH b (by rw [R.noT t z]; exact nofun)]; exact z⟩
  · obtain ⟨u, e1, h⟩ := R.sl j c e
    exact ⟨u, e1, cm h (rf j u e1)⟩
  · refine OwO.mono (own := fun a => (O a = some (σ.length + ts.length) ∨ O a = some (σ.length + ts.length + 1)) ∧ B.H a = none) (Same.refl F) (fun a z => ⟨?_, z.2⟩) (fun _ _ => rfl) new
    rcases z.1 with z | z
    · exact (if_neg (by rw [z]; exact fun q => by have := Option.some.inj q; omega)).trans z
    · exact if_pos z
  · by_cases hb : O b = some (σ.length + ts.length)
    · rw [(R.of b _ hb).1] at e
      cases e
    · rw [hH b hb]
      exact R.sf b u e
  · have z : (if O b = some (σ.length + ts.length + 1) then some (σ.length + ts.length) else O b) = some j := z
    by_cases h1 : O b = some (σ.length + ts.length + 1)
    · rw [if_pos h1] at z
      cases z
      obtain ⟨q1, q2, q3, q4⟩ := R.of b _ h1
      refine ⟨q1, ?_, by rw [List.length_cons]; omega, .inl (nbH b _ h1 (by omega))⟩
      rw [hH b (by rw [h1]; exact fun q => by have := Option.some.inj q; omega)]
      exact q2
    · rw [if_neg h1] at z
      obtain ⟨q1, q2, q3, q4⟩ := R.of b j z
      refine ⟨q1, ?_, ?_, q4⟩
      · by_cases hb : O b = some (σ.length + ts.length)
        · exact hn b hb
        · rw [hH b hb]; exact q2
      · rw [List.length_cons, List.length_cons] at q3
        rw [List.length_cons]
        have : j ≠ σ.length + ts.length + 1 := fun y => h1 (by rw [z, y])
        omega
  · by_cases hb : O b = some (σ.length + ts.length)
    · rw [nbH b _ hb (by omega)] at e; cases e
    · rw [hH b hb]
      exact R.b2 b u hs ht e
  · by_cases hb : O b = some (σ.length + ts.length)
    · exact (hn b hb).1
    · rw [hH b hb]
      exact R.b5 b e
/-! ### dict displays -/
def flatM : List (ME × ME) → MA
  | [] => mNil
  | (k, v) :: r => mCons k (mCons v (flatM r))
def pairUp {α : Type} : List α → List (α × α)
  | k :: v :: r => (k, v) :: pairUp r
  | _ => []
inductive SPs (K : KW) (B : Bs) (W : WX) : List (TE × TE) → List (ME × ME) → Prop
  | nil : SPs K B W [] []
  | cons {tk tv : TE} {mk mv : ME} {tr : List (TE × TE)} {mr : List (ME × ME)} : SE K B W tk mk → SE K B W tv mv → SPs K B W tr mr → SPs K B W ((tk, tv) :: tr) ((mk, mv) :: mr)
def PPs' (K : KW) (B : Bs) (W : WX) (σ : L2.St) (ts : List V) (te : List A) (Q : List (V × V) → Hp → Prop) : Rs (List A) → Prop
  | .ok as e => ∀ vs H, vs.length = as.length → Rel K B σ e (vs.reverse ++ ts) (as.reverse ++ te) H → Q (pairUp vs) H
  | .ex x e => XPost K B W σ ts te x e
  | .bad => False
theorem sps_run {trs : List (TE × TE)} {ms : List (ME × ME)} (h : SPs K B W trs ms) : ∀ {σ : L2.St} {env : Env} {ts : List V} {te : List A} {H : Hp} {Q : List (V × V) → Hp → Prop}, Rel K B σ env ts te H → PPs' K B W σ ts te Q (flatM ms env te) → tPairs trs σ H Q := by
  induction h with
  | nil => intro σ env ts te H Q R p; exact p [] H rfl R
  | @cons tk tv mk mv tr mr h1 h2 h3 ih =>
    intro σ env ts te H Q R p
    have p : PPs' K B W σ ts te Q ((mk env te).bind fun a e1 => ((mv e1 (a :: te)).bind fun b e2 => (flatM mr e2 (b :: a :: te)).bind fun as e3 => Rs.ok (b :: as) e3).bind fun as e2 => .ok (a :: as) e2) := p
    refine h1 σ env ts te H _ R ?_
    cases q : mk env te with
    | ex x e => rw [q] at p; exact p
    | bad => rw [q] at p; exact p
    | ok a e1 =>
      rw [q] at p
      simp only [Rs.bind_ok] at p
      intro x H1 R1
      refine h2 σ e1 _ _ H1 _ R1 ?_
      cases q2 : mv e1 (a :: te) with
      | ex y e => rw [q2] at p; exact XPost.push p x a
      | bad => rw [q2] at p; exact p
      | ok b e2 =>
        rw [q2] at p
        simp only [Rs.bind_ok] at p
        intro y H2 R2
        refine ih (Q := fun ps H3 => Q ((x, y) :: ps) H3) R2 ?_
        cases q3 : flatM mr e2 (b :: a :: te) with
        | ex z e => rw [q3] at p; exact XPost.push (XPost.push p x a) y b
        | bad => rw [q3] at p; exact p
        | ok as e3 =>
          rw [q3] at p
          intro vs H3 hl R3
          refine p (x :: y :: vs) H3 (by rw [List.length_cons, List.length_cons, List.length_cons, List.length_cons, hl]) ?_
          rw [List.reverse_cons, List.reverse_cons, List.append_assoc, List.append_assoc, List.reverse_cons, List.reverse_cons, List.append_assoc, List.append_assoc]
          exact R3
def keyPs : List (Dt × Dt) → Option (List (Key × Dt))
  | [] => some []
  | (k, x) :: r => match keyD k, keyPs r with
    | some k', some r' => some ((k', x) :: r')
    | _, _ => none
def mergeD (kvs : List (Key × Dt)) : List (Key × Dt) := kvs.foldl (fun acc kv => putD acc kv.1 kv.2) []
def mDisp (ms : List (ME × ME)) : ME := fun env te => (flatM ms env (.own (.dc []) :: te)).bind fun as e => match (dAll as).bind fun xs => keyPs (pairUp xs) with
  | some kvs => if kvs.length ≤ 15 then .ok (.own (.dc (mergeD kvs))) e else .bad
  | none => .bad
theorem keyPs_dn {F : Hp} : ∀ {vs : List V} {xs : List Dt} {kvs : List (Key × Dt)}, DnAll K F vs xs → keyPs (pairUp xs) = some kvs → ∃ us : List (Key × V), pairUp vs = us.map (fun kv => (kV kv.1, kv.2)) ∧ Paired (fun (p : Key × V) (q : Key × Dt) => p.1 = q.1 ∧ Dn K F p.2 q.2) us kvs
  | _, _, _, .nil, h => by cases h; exact ⟨[], rfl, .nil⟩
  | _, _, _, .cons _ .nil, h => by cases h; exact ⟨[], rfl, .nil⟩
  | _, _, kvs, .cons (v := v1) (d := k1) h1 (.cons (v := v2) (d := x2) h2 r), h => by
    rename_i vs ds
    have h : (match keyD k1, keyPs (pairUp ds) with | some k', some r' => some ((k', x2) :: r') | _, _ => none) = some kvs := h
    cases e1 : keyD k1 with
    | none => rw [e1] at h; cases h
    | some k =>
      cases e2 : keyPs (pairUp ds) with
      | none => rw [e1, e2] at h; cases h
      | some kr =>
        rw [e1, e2] at h
        cases h
        obtain ⟨us, eu, pr⟩ := keyPs_dn r e2
        refine ⟨(k, v2) :: us, ?_, .cons ⟨rfl, h2⟩ pr⟩
        show (v1, v2) :: pairUp vs = _
        rw [eu, keyD_kV h1 e1]
        rfl
theorem paired_merge {F : Hp} : ∀ {us : List (Key × V)} {kvs : List (Key × Dt)} {ua : List (Key × V)} {ka : List (Key × Dt)}, Paired (fun (p : Key × V) (q : Key × Dt) => p.1 = q.1 ∧ Dn K F p.2 q.2) us kvs → Paired (fun (p : Key × V) (q : Key × Dt) => p.1 = q.1 ∧ Dn K F p.2 q.2) ua ka →
    Paired (fun (p : Key × V) (q : Key × Dt) => p.1 = q.1 ∧ Dn K F p.2 q.2) (us.foldl (fun acc kv => putK acc kv.1 kv.2) ua) (kvs.foldl (fun acc kv => putD acc kv.1 kv.2) ka)
  | _, _, _, _, .nil, h => h
  | _, _, _, _, .cons g r, h => by
    rw [List.foldl_cons, List.foldl_cons, g.1]
    exact paired_merge r (paired_put (R := Dn K F) h g.2)
theorem se_disp {trs : List (TE × TE)} {ms : List (ME × ME)} (h : SPs K B W trs ms) : SE K B W (tDisp trs) (mDisp ms) := by
  intro σ env ts te H Q R p l nl
  obtain ⟨F, O, R⟩ := R
  have R1 : Rel K B σ env (.ref l :: ts) (.own (.dc []) :: te) (upd H l (.dK [])) := ⟨F, _, R.newL nl (o := .dK []) (mutO_dK []) (w := .dc []) fun own hp => ⟨l, [], rfl, hp, upd_same, .nil⟩⟩
  refine sps_run h R1 ?_
  have p : PE' K B W σ ts te Q ((flatM ms env (.own (.dc []) :: te)).bind fun as e => match (dAll as).bind fun xs => keyPs (pairUp xs) with | some kvs => if kvs.length ≤ 15 then .ok (.own (.dc (mergeD kvs))) e else .bad | none => .bad) := p
  cases q : flatM ms env (.own (.dc []) :: te) with
  | ex x e => rw [q] at p; exact XPost.push p _ _
  | bad => rw [q] at p; exact p
  | ok as e =>
    rw [q] at p
    simp only [Rs.bind_ok] at p
    intro vs H2 hl R2
    cases ed : dAll as with
    | none => simp only [ed, Option.bind_none] at p; exact False.elim p
    | some xs =>
      cases ek : keyPs (pairUp xs) with
      | none => simp only [ed, Option.bind_some, ek] at p; exact False.elim p
      | some kvs =>
        simp only [ed, Option.bind_some, ek] at p
        split at p
        · rename_i hz
          obtain ⟨F2, O2, R3, d⟩ := args_dn hl R2 ed
          obtain ⟨us, eu, pr⟩ := keyPs_dn d ek
          obtain ⟨a, us0, ea, oa, ha, pr0⟩ := R3.tm.1
          cases ea
          cases pr0
          refine ⟨ha, us, eu, by rw [pr.length]; exact hz, p _ _ ⟨F2, O2, R3.mutT (o' := .dc (mergeD kvs)) (fun b nb => upd_ne (fun z => nb (by rw [z]; exact oa.1))) (fun b hb => ?_) ⟨l, _, rfl, oa, upd_same, paired_merge pr .nil⟩⟩⟩
          by_cases hb2 : b = l
          · rw [hb2, upd_same]; exact mutO_dK _
          · rw [upd_ne hb2]; exact (R3.of b _ hb).2.1
        · exact False.elim p
/-- {k: a list} -/
def mDisp1 (mk mv : ME) : ME := fun env te => (mk env (.own (.dc []) :: te)).bind fun a e1 => (mv e1 (a :: .own (.dc []) :: te)).bind fun b e2 => match a, b with
  | .d kd, .own (.l ys) => (match keyD kd with
    | some k => .ok (.own (.dl [(k, ys)])) e2
    | none => .bad)
  | _, _ => .bad
end
end Tw

namespace Tw
open PySem PySem.Spec PyProof.Rows L2
/-! ### calls that raise nothing -/
def DRs.noX : DRs → DRs
  | .ex _ _ => .bad
  | r => r
@[simp] theorem DRs.noX_ok (a : A) (l : List A) : (DRs.ok a l).noX = .ok a l := rfl
@[simp] theorem DRs.noX_bad : DRs.bad.noX = .bad := rfl
def noXf (f : DF) : DF := fun as => (f as).noX
/-- a def's promise, with the number of its parameters -/
def spN (K : KW) (f : DF) (k : Nat) : Sp := fun vs H Q E => vs.length = k ∧ spM K f vs H Q E
/-- the law itself: a script, and True -/
def sp_law (K : PySem.W.Frag) : Sp := fun vs H Q _ => ∃ (a : Addr) (ns : List Int), vs = [.ref a] ∧ SqL K H a (ns.map V.int) ∧ ns.length ≤ 63 ∧ ∀ H', Q (.bl true) H'
/-- the law itself, with its tables of code objects, empty as yet -/
def sp_lawT (K : KW) : Sp := fun vs H Q _ => ∃ (a : Addr) (ns : List Int), vs = [.ref a] ∧ SqL K H a (ns.map V.int) ∧ ns.length ≤ 63 ∧ (∀ p ∈ K.T, H p.1 = some (.tbl #[])) ∧ ∀ H', Q (.bl true) H'
theorem law_pureT {K : KW} {f : DF} (h : ∀ ns : List Int, ns.length ≤ 63 → ∃ ios, f [.sc ns] = .ok (.d (.bool true)) ios) (vs : List V) (H : Hp) (Q : VK) (E : XK) (p : sp_lawT K vs H Q E) : spM K f vs H Q E := by
  obtain ⟨a, ns, rfl, hS, hl, hT, q⟩ := p
  obtain ⟨ios, hf⟩ := h ns hl
  let F0 : Hp := fun b => if (K.T.any fun p => p.1 == b) = true then none else H b
  have f0 : ∀ b o, F0 b = some o → H b = some o := fun b o e => by
    have e : (if (K.T.any fun p => p.1 == b) = true then none else H b) = some o := e
    split at e
    · cases e
    · exact e
  have f1 : ∀ b o, (∀ ps, o ≠ .tbl ps) → H b = some o → F0 b = some o := fun b o n e => by
    show (if (K.T.any fun p => p.1 == b) = true then none else H b) = some o
    rw [if_neg]
    · exact e
    · intro z
      obtain ⟨p, hp, e2⟩ := List.any_eq_true.mp z
      have e2 := beq_iff_eq.mp e2
      have t := hT p hp
      rw [e2, e] at t
      exact n _ (Option.some.inj t)
  have hS' : SqL K F0 a (ns.map V.int) := by
    rcases hS with (z | ⟨o, z⟩) | z
    · exact .inl (.inl (f1 _ _ (fun _ z => nomatch z) z))
    · exact .inl (.inr ⟨o, f1 _ _ (fun _ z => nomatch z) z⟩)
    · exact .inr z
  refine ⟨F0, fun _ => none, [.sc ns], fun _ => none, fun _ => false, rfl, fun i x e => ?_, ⟨rfl, fun i x e => ?_, trivial, f0, fun b j z => (nomatch z), Same.refl F0, fun b o _ _ e => e, fun b h1 h2 => absurd h1 h2, fun b h => h, (fun i h => nomatch h), fun p hp => ⟨?_, ?_, rfl⟩, fun p hp => LamX.TabS.nil (hT p hp)⟩, ?_⟩
  · match i, e with
    | 0, e => cases e; exact .inr (.inl ⟨ns, rfl⟩)
    | n + 1, e => simp at e
  · match i, e with
    | 0, e => cases e; exact ⟨.ref a, rfl, a, rfl, hS'⟩
    | n + 1, e => simp at e
  · show (if (K.T.any fun q => q.1 == p.1) = true then none else H p.1) = none
    exact if_pos (show (K.T.any fun q => q.1 == p.1) = true from List.any_eq_true.mpr ⟨p, hp, by show (p.1 == p.1) = true; exact beq_self_eq_true _⟩)
  · show H p.1 ≠ none
    rw [hT p hp]
    exact nofun
  · rw [hf]
    intro F O v H' R c
    have c : Dn K F v (.bool true) := c
    cases c
    exact q H'
theorem law_pure {K : KW} {f : DF} (h : ∀ ns : List Int, ns.length ≤ 63 → ∃ ios, f [.sc ns] = .ok (.d (.bool true)) ios) (vs : List V) (H : Hp) (Q : VK) (E : XK) (p : sp_law K vs H Q E) (hT : K.T = [] := by rfl) : spM K f vs H Q E := by
  obtain ⟨a, ns, e, hS, hl, q⟩ := p
  exact law_pureT h vs H Q E ⟨a, ns, e, hS, hl, (fun p hp => by rw [hT] at hp; cases hp), q⟩
/-! ### a, b = e1, e2 -/
def mPar (i j : Nat) (m : MA) : MS := fun env te => (m env te).fl fun as e => match as with
  | [a, b] => (match gN j b e (a :: te) with
    | some e1 => (match gN i a e1 te with
      | some e2 => .nx e2
      | none => .bad)
    | none => .bad)
  | _ => .bad
def mPar3 (i j l : Nat) (m : MA) : MS := fun env te => (m env te).fl fun as e => match as with
  | [a, b, c] => (match gN l c e (b :: a :: te) with
    | some e0 => (match gN j b e0 (a :: te) with
      | some e1 => (match gN i a e1 te with
        | some e2 => .nx e2
        | none => .bad)
      | none => .bad)
    | none => .bad)
  | _ => .bad
def mChain (g1 g2 : Dt → Dt → Option Dt) (ma mb mc : ME) : ME := fun env te => (ma env te).bind fun a e1 => (mb e1 (a :: te)).bind fun b e2 => match (match a.val e2, b.val e2 with | some x, some y => g1 x y | _, _ => none) with
  | some (.bool true) => if isIo b = true then .bad else (mc e2 (b :: te)).bind fun c e4 => fl2 g2 e4 b c
  | some (.bool false) => .ok (.d (.bool false)) e2
  | _ => .bad
section
variable {K : KW} {B : Bs} {W : WX}
theorem se_call0 {f : DF} {io : List Bool} {k : Nat} {t : TA} {m : MA} (hk : io.length = k) (h : SA K B W t m) : SE K B W (tCall (spN K f k) [] E0 t) (mCall (noXf f) io m) := by
  refine se_callG (sp := spN K f k) (E := fun _ => E0) (fun σ vs H Q hv p => ?_) h
  obtain ⟨F, O, as, S, io, hl, kd, R, p⟩ := p
  refine ⟨hv.trans hk, F, O, as, S, io, hl, kd, R, ?_⟩
  unfold noXf at p
  cases q : f as with
  | ok r ios => rw [q] at p; exact p
  | ex x ios => rw [q] at p; exact False.elim p
  | bad => rw [q] at p; exact p
theorem se_chain {r r' : R2} {g1 g2 : Dt → Dt → Option Dt} {ta tb tc : TE} {ma mb mc : ME} (o : OpS K r g1) (o' : OpS K r' g2) (ha : SE K B W ta ma) (hb : SE K B W tb mb) (hc : SE K B W tc mc) : SE K B W (tChain r r' ta tb tc) (mChain g1 g2 ma mb mc) := by
  intro σ env ts te H Q R p
  refine ha.thE R p fun a e p v H1 R1 => ?_
  refine hb σ e (v :: ts) (a :: te) H1 _ R1 ?_
  cases q : mb e (a :: te) with
  | ex x e2 => rw [q] at p; exact XPost.push p v a
  | bad => rw [q] at p; exact p
  | ok b e2 =>
    rw [q] at p
    simp only [Rs.bind_ok] at p
    rintro u H2 ⟨F2, O2, R2⟩
    cases ea : a.val e2 with
    | none => simp only [ea] at p; exact False.elim p
    | some x =>
      cases eb : b.val e2 with
      | none => simp only [ea, eb] at p; exact False.elim p
      | some y =>
        simp only [ea, eb] at p
        cases eg : g1 x y with
        | none => simp only [eg] at p; exact False.elim p
        | some z =>
          obtain ⟨hf, hr⟩ := o H2 v u x y z (fun z H3 => ∃ k, z = .bl k ∧ (if k = true then tc σ H3 fun w' H4 => r' u w' H4 Q else Q (.bl false) H3)) (cell_val R2 R2.tm.2.1 ea) (cell_val R2 R2.tm.1 eb) eg
          refine hr ?_
          cases z with
          | bool c =>
            refine ⟨c, rfl, ?_⟩
            cases c with
            | false => simp only [eg] at p; rw [if_neg Bool.false_ne_true]; exact p _ H2 (R2.pop.pop.pushD (.bl _))
            | true =>
              simp only [eg] at p
              rw [if_pos rfl]
              split at p
              · exact False.elim p
              · rename_i nb
                have R3 : Rel K B σ e2 (u :: ts) (b :: te) H2 := ⟨F2, _, R2.mid (by simpa using nb)⟩
                refine hc σ e2 _ _ H2 _ R3 ?_
                cases q2 : mc e2 (b :: te) with
                | ex x e4 => rw [q2] at p; exact XPost.push p u b
                | bad => rw [q2] at p; exact p
                | ok c e4 => rw [q2] at p; intro w H4 R4; exact so2_fl o' σ e4 ts te H4 Q u w b c R4 p
          | _ => simp only [eg] at p; exact False.elim p
theorem ss_par {i j : Nat} {t : TA} {m : MA} (h : SA K B W t m) (hij : i ≠ j) : SS K B W (tPar i j t) (mPar i j m) := by
  intro σ env ts te H D R p
  refine h σ env ts te H _ R ?_
  unfold mPar at p
  cases q : m env te with
  | ex x e => rw [q] at p; exact p σ
  | bad => rw [q] at p; exact p
  | ok as e =>
    rw [q] at p
    simp only [Rs.fl_ok] at p
    intro vs H1 hl R1
    match as, vs, hl, p, R1 with
    | [a, b], [v, w], _, p, R1 =>
      refine ⟨v, w, rfl, ?_⟩
      cases q1 : gN j b e (a :: te) with
      | none => simp only [q1] at p; exact False.elim p
      | some e1 =>
        simp only [q1] at p
        cases q2 : gN i a e1 te with
        | none => simp only [q2] at p; exact False.elim p
        | some e2 =>
          simp only [q2] at p
          rw [List.set_comm _ _ hij]
          exact p _ _ (rel_set (rel_set R1 q1) q2)
    | [], [], _, p, _ => exact False.elim p
    | [_], [_], _, p, _ => exact False.elim p
    | _ :: _ :: _ :: _, _ :: _ :: _ :: _, _, p, _ => exact False.elim p
theorem ss_par3 {i j l : Nat} {t : TA} {m : MA} (h : SA K B W t m) (h1 : i ≠ j) (h2 : i ≠ l) (h3 : j ≠ l) : SS K B W (tPar3 i j l t) (mPar3 i j l m) := by
  intro σ env ts te H D R p
  refine h σ env ts te H _ R ?_
  unfold mPar3 at p
  cases q : m env te with
  | ex x e => rw [q] at p; exact p σ
  | bad => rw [q] at p; exact p
  | ok as e =>
    rw [q] at p
    simp only [Rs.fl_ok] at p
    intro vs H1 hl R1
    match as, vs, hl, p, R1 with
    | [a, b, c], [v, w, x], _, p, R1 =>
      refine ⟨v, w, x, rfl, ?_⟩
      cases q0 : gN l c e (b :: a :: te) with
      | none => simp only [q0] at p; exact False.elim p
      | some e0 =>
        simp only [q0] at p
        cases q1 : gN j b e0 (a :: te) with
        | none => simp only [q1] at p; exact False.elim p
        | some e1 =>
          simp only [q1] at p
          cases q2 : gN i a e1 te with
          | none => simp only [q2] at p; exact False.elim p
          | some e2 =>
            simp only [q2] at p
            have := p _ _ (rel_set (rel_set (rel_set R1 q0) q1) q2)
            rw [List.set_comm _ _ h1, List.set_comm _ _ h2, List.set_comm _ _ h3]
            exact this
    | [], [], _, p, _ => exact False.elim p
    | [_], [_], _, p, _ => exact False.elim p
    | [_, _], [_, _], _, p, _ => exact False.elim p
    | _ :: _ :: _ :: _ :: _, _ :: _ :: _ :: _ :: _, _, p, _ => exact False.elim p
end
end Tw

namespace Tw
open PySem PySem.Spec PyProof.Rows L2
def mDnew : ME := fun env _ => .ok (.own (.dc [])) env
section
variable {K : KW} {B : Bs} {W : WX}
theorem isDct_d {σ : L2.St} {env : Env} {ts : List V} {te : List A} {F H : Hp} {O : Addr → Option Nat} {j : Nat} {v : V} {a : A} (R : RelF K B F O σ env ts te H) (c : CellO K B F H O σ j v a) (h : isDct env a = true) : ∃ p us, v = .ref p ∧ Rd H p (.dK us) := by
  have key : ∃ g, dgO env a (.inl 0) = some g := by
    unfold isDct at h
    cases a with
    | d x => cases x with
      | dict kvs => exact ⟨_, rfl⟩
      | _ => cases h
    | lk kvs => exact ⟨_, rfl⟩
    | rf i pt =>
      cases pt with
      | some _ => cases h
      | none =>
        simp only at h
        cases eo : owAt env i with
        | none => rw [eo] at h; cases h
        | some o =>
          rw [eo] at h
          cases o with
          | dc kvs =>
            refine ⟨(match lkD kvs (.inl 0) with | some x => .dt x | none => .no), ?_⟩
            unfold dgO
            simp only [eo]
            all_goals (cases lkD kvs (.inl 0) <;> rfl)
          | dl kvs =>
            refine ⟨(match lkD kvs (.inl 0) with | some _ => .li | none => .no), ?_⟩
            unfold dgO
            simp only [eo]
            all_goals (cases lkD kvs (.inl 0) <;> rfl)
          | _ => cases h
    | _ => cases h
  obtain ⟨g, hg⟩ := key
  obtain ⟨p, us, e, r, _⟩ := dg_ok R c hg
  exact ⟨p, us, e, r⟩
theorem se_dget2 {td tk tx : TE} {md mk mx : ME} (hd : SE K B W td md) (hk : SE K B W tk mk) (hx : SE K B W tx mx) : SE K B W (tDGet2 td tk tx) (mDGet2 md mk mx) := by
  intro σ env ts te H Q R p
  refine hd.thE R p fun a e p v H1 R1 => ?_
  split at p
  case isFalse => exact False.elim p
  rename_i hi
  have ⟨pa0, us0, e0, rd0⟩ : ∃ p us, v = .ref p ∧ Rd H1 p (.dK us) := by
    obtain ⟨F, O, R1⟩ := R1
    exact isDct_d R1 R1.tm.1 hi
  refine ⟨pa0, e0, .inl ⟨us0, rd0⟩, ?_⟩
  refine hk σ e _ _ H1 _ R1 ?_
  cases q : mk e (a :: te) with
  | ex x e2 => rw [q] at p; exact XPost.push p v a
  | bad => rw [q] at p; exact p
  | ok b e2 =>
    rw [q] at p
    simp only [Rs.bind_ok] at p
    intro u H2 R2
    refine hx σ e2 _ _ H2 _ R2 ?_
    cases q2 : mx e2 (b :: a :: te) with
    | ex x e3 => rw [q2] at p; exact XPost.push (XPost.push p v a) u b
    | bad => rw [q2] at p; exact p
    | ok c e3 =>
      rw [q2] at p
      simp only [Rs.bind_ok] at p
      rintro w H3 ⟨F, O, R3⟩
      cases eb : b.val e3 with
      | none => simp only [eb, Option.bind_none] at p; exact False.elim p
      | some y =>
        cases ek : keyD y with
        | none => simp only [eb, Option.bind_some, ek] at p; exact False.elim p
        | some k =>
          simp only [eb, Option.bind_some, ek] at p
          have eu := keyD_kV (cell_val R3 R3.tm.2.1 eb) ek
          cases c with
          | d yd =>
            simp only at p
            cases eg : dgO e3 a k with
            | none => simp only [eg] at p; exact False.elim p
            | some g =>
              obtain ⟨pa, us, e1, rd, hg⟩ := dg_ok R3 R3.tm.2.2.1 eg
              rw [e0] at e1
              cases e1
              refine ⟨valV us k, .inl ⟨us, k, rd, eu, rfl⟩, ?_⟩
              cases g with
              | no => simp only [eg] at p; rw [hg]; exact p _ H3 (R3.pop.pop.pop.pushD R3.tm.1)
              | dt x => simp only [eg] at p; obtain ⟨z, hz, dz⟩ := hg; rw [hz]; exact p _ H3 (R3.pop.pop.pop.pushD dz)
              | li => simp only [eg] at p; exact False.elim p
          | _ => exact False.elim p
end
/-! ### texts in order -/
def leS (a b : Str) : Bool := !ltCps b.cps.toList a.cps.toList
theorem ltCps_irrefl : ∀ a : List Nat, ltCps a a = false
  | [] => rfl
  | a :: r => by
    show (decide (a < a) || (a == a && ltCps r r)) = false
    rw [ltCps_irrefl r]
    simp
theorem ltCps_trans : ∀ a b c : List Nat, ltCps a b = true → ltCps b c = true → ltCps a c = true
  | [], [], c, h, _ => by cases h
  | [], _ :: _, [], _, h => by cases h
  | [], _ :: _, _ :: _, _, _ => rfl
  | _ :: _, [], _, h, _ => by cases h
  | _ :: _, _ :: _, [], _, h => by cases h
  | a :: r, b :: t, c :: u, h1, h2 => by
    have h1' : (decide (a < b) || (a == b && ltCps r t)) = true := h1
    have h2' : (decide (b < c) || (b == c && ltCps t u)) = true := h2
    show (decide (a < c) || (a == c && ltCps r u)) = true
    simp only [Bool.or_eq_true, Bool.and_eq_true, decide_eq_true_eq, beq_iff_eq] at h1' h2' ⊢
    rcases h1' with x | ⟨x, y⟩
    · rcases h2' with z | ⟨z, v⟩
      · exact .inl (by omega)
      · exact .inl (by omega)
    · rcases h2' with z | ⟨z, v⟩
      · exact .inl (by omega)
      · exact .inr ⟨by omega, ltCps_trans r t u y v⟩
theorem ltCps_tri : ∀ a b : List Nat, ltCps a b = false → ltCps b a = false → a = b
  | [], [], _, _ => rfl
  | [], _ :: _, h, _ => by cases h
  | _ :: _, [], _, h => by cases h
  | a :: r, b :: t, h1, h2 => by
    have h1' : (decide (a < b) || (a == b && ltCps r t)) = false := h1
    have h2' : (decide (b < a) || (b == a && ltCps t r)) = false := h2
    simp only [Bool.or_eq_false_iff, decide_eq_false_iff_not, Bool.and_eq_false_iff, beq_eq_false_iff_ne] at h1' h2'
    have e : a = b := by omega
    subst e
    rcases h1'.2 with h | h
    · exact absurd rfl h
    · rcases h2'.2 with h' | h'
      · exact absurd rfl h'
      · rw [ltCps_tri r t h h']
theorem leS_trans (a b c : Str) (h1 : leS a b = true) (h2 : leS b c = true) : leS a c = true := by
  unfold leS at *
  simp only [Bool.not_eq_true'] at *
  cases h : ltCps c.cps.toList a.cps.toList with
  | false => rfl
  | true =>
    cases hb : ltCps a.cps.toList b.cps.toList with
    | true =>
      rw [ltCps_trans _ _ _ h hb] at h2
      cases h2
    | false =>
      have e := ltCps_tri _ _ hb h1
      rw [e] at h
      rw [h] at h2
      cases h2
theorem leS_total (a b : Str) : (leS a b || leS b a) = true := by
  unfold leS
  cases h : ltCps b.cps.toList a.cps.toList with
  | false => rfl
  | true =>
    cases h2 : ltCps a.cps.toList b.cps.toList with
    | false => rfl
    | true =>
      have := ltCps_trans _ _ _ h h2
      rw [ltCps_irrefl] at this
      cases this
theorem leS_anti (a b : Str) (h1 : leS a b = true) (h2 : leS b a = true) : a = b := by
  unfold leS at *
  simp only [Bool.not_eq_true'] at *
  exact TL.ext_tl (ltCps_tri _ _ h2 h1)
def srtS (l : List Str) : List Str := l.mergeSort leS
theorem rising_pw : ∀ (p : Str) (l : List Str), risingS p l = true → (p :: l).Pairwise (fun a b => leS a b = true)
  | p, [], _ => List.pairwise_singleton _ _
  | p, x :: r, h => by
    have h' : (!ltCps x.cps.toList p.cps.toList && risingS x r) = true := h
    rw [Bool.and_eq_true] at h'
    have ih := rising_pw x r h'.2
    refine List.pairwise_cons.mpr ⟨fun y hy => ?_, ih⟩
    rcases List.mem_cons.mp hy with rfl | hy
    · exact h'.1
    · exact leS_trans _ _ _ h'.1 ((List.pairwise_cons.mp ih).1 y hy)
theorem sortedS_pw : ∀ l : List Str, sortedS l = true → l.Pairwise (fun a b => leS a b = true)
  | [], _ => List.Pairwise.nil
  | x :: r, h => rising_pw x r h
theorem perm_sorted {α : Type} {le : α → α → Prop} (anti : ∀ a b, le a b → le b a → a = b) : ∀ {l m : List α}, l.Perm m → l.Pairwise le → m.Pairwise le → l = m
  | [], m, p, _, _ => by
    have := p.length_eq
    cases m with
    | nil => rfl
    | cons => cases this
  | x :: l, [], p, _, _ => by
    have := p.length_eq
    cases this
  | x :: l, y :: m, p, h1, h2 => by
    have e : x = y := by
      have hx : x ∈ y :: m := p.subset List.mem_cons_self
      have hy : y ∈ x :: l := p.symm.subset List.mem_cons_self
      rcases List.mem_cons.mp hx with e | hx
      · exact e
      · rcases List.mem_cons.mp hy with e | hy
        · exact e.symm
        · exact anti x y ((List.pairwise_cons.mp h1).1 y hy) ((List.pairwise_cons.mp h2).1 x hx)
    subst e
    rw [perm_sorted anti (List.Perm.cons_inv p) (List.pairwise_cons.mp h1).2 (List.pairwise_cons.mp h2).2]
theorem srtS_pw (l : List Str) : (srtS l).Pairwise (fun a b => leS a b = true) := List.pairwise_mergeSort leS_trans leS_total l
theorem srtS_perm (l : List Str) : (srtS l).Perm l := List.mergeSort_perm l leS
/-- what sorted gives is this list -/
theorem srtS_of {ys l : List Str} (p : ys.Perm l) (h : sortedS ys = true) : ys = srtS l :=
  perm_sorted (fun a b => leS_anti a b) (p.trans (srtS_perm l).symm) (sortedS_pw ys h) (srtS_pw l)
theorem srtS_len (l : List Str) : (srtS l).length = l.length := (srtS_perm l).length_eq

def sortA : Env → A → Rs A := fun env a => match (a.lst? env).bind strsD with
  | some ss => if ss.length < 64 then .ok (.own (.l ((srtS ss).map .str))) env else .bad
  | none => .bad
theorem strs_len {K : KW} {F : Hp} : ∀ {ds : List Dt} {vs : List V} {ss : List Str}, DnAll K F vs ds → strsD ds = some ss → ∀ s ∈ ss, s.length ≤ sizeLine
  | [], _, _, .nil, h, s, hs => by cases h; cases hs
  | d :: ds, _, ss, .cons h1 r, h, s, hs => by
    cases h1 with
    | str z hz =>
      unfold strsD at h
      cases q : strsD ds with
      | none => rw [q] at h; cases h
      | some ss' =>
        rw [q] at h
        cases h
        rcases List.mem_cons.mp hs with rfl | hs
        · exact hz
        · exact strs_len r q s hs
    | _ => cases h
theorem so1_sort {K : KW} {B : Bs} {W : WX} : SO1 K B W (fun v => rSortedS K [v]) sortA := by
  intro σ env ts te H Q v a R p
  obtain ⟨F, O, R⟩ := R
  unfold sortA at p
  cases e : a.lst? env with
  | none => simp only [e, Option.bind_none] at p; exact False.elim p
  | some xs =>
    cases e2 : strsD xs with
    | none => simp only [e, Option.bind_some, e2] at p; exact False.elim p
    | some ss =>
      simp only [e, Option.bind_some, e2] at p
      split at p
      · rename_i hz
        obtain ⟨q1, vs, rfl, t1, d1⟩ := cell_lst R R.tm.1 e
        refine ⟨q1, ss, rfl, by rw [← strsD_dn d1 e2]; exact t1, hz, fun ys l pm st nl => ?_⟩
        have ey := srtS_of pm st
        subst ey
        exact p _ _ (R.pop.pushL nl (DnAll.ofStrs fun s hs => strs_len d1 e2 s ((srtS_perm ss).mem_iff.mp hs)))
      · exact False.elim p
/-- a module's tuple of texts, without a dict of its own -/
def tupNB (K : PySem.W.Frag) (x : Str) (ss : List Str) : Bool := match K.lookup (He.ga K x) with
  | some ⟨.type c, none, .seq its _, _⟩ => decide (c = "tuple") && (decide (its.size ≤ sizeLine) && He.relAll (ss.map V.str) its.toList)
  | _ => false
theorem tupNB_ok {K : PySem.W.Frag} {x : Str} {ss : List Str} (h : tupNB K x ss = true) (H : Hp) : TupN K H (He.ga K x) (ss.map V.str) := by
  unfold tupNB at h
  cases q : K.lookup (He.ga K x) with
  | none => rw [q] at h; cases h
  | some o =>
    obtain ⟨oc, od, dt, osl⟩ := o
    rw [q] at h
    split at h
    · rename_i c its n sl e
      cases e
      rw [Bool.and_eq_true, Bool.and_eq_true] at h
      exact .inr ⟨_, its, n, q, by rw [of_decide_eq_true h.1], rfl, rfl, of_decide_eq_true h.2.1, He.relAll_ok h.2.2⟩
    · cases h
/-! ### a, b = a list -/
def gL (is : List Nat) : MG := fun a env te => match a.lst? env with
  | some xs => gTs is xs env te
  | none => none
end Tw

namespace Tw
open PySem PySem.Spec PyProof.Rows L2
/-! ### defs that may raise -/
abbrev WE (E : XK) : WX := fun cls d _ H => E cls d H
section
variable {P : Program} {w : World} {K : PySem.W.Frag} {mg : Str → Option Value} {base : Heap}
end
section
variable {X : Cx} {W : WX} {k j : Nat} {x : Str} {sp : Sp} {p pos : Pos} {e : Expr} {es : List Expr} {t : TA}
end
section
variable {K : KW} {B : Bs} {W : WX}
theorem pure_ofX {t : WX → TS} {m : MS} {N : List Str} (h : ∀ B W, SS K B W (t W) m) (vs : List V) (H : Hp) (Q : VK) (E : XK) (p : spM K (runM N.length m) vs H Q E) : t (WE E) { nx := fun _ H' => Q .non H', rt := Q } (start N vs) H := pure_of1 vs H Q E (fun B => h B _) p
end
end Tw

namespace Tw
open PySem PySem.Spec PyProof.Rows L2
/-! ### own exception classes over ValueError -/
def oexB (K : PySem.W.Frag) (C : Addr) : Bool := (match K.lookup C with
  | some ⟨.type "type", _, .cls cd, sl⟩ => (match cd.mro, sl.toList with
    | .ref C' :: bm, [_, _, _, _, some (.builtin n), _] => C' == C && n == "ValueError.__new__" && !cd.hasDel && cd.hasDict && PySem.HandSPX.refsVE bm
    | _, _ => false)
  | _ => false) && (decide (PySem.W.findIn K (.ref C) "__setattr__" = some (some (.builtin "object.__setattr__"))) && (decide (PySem.W.subIn K (.ref C) (.type "BaseException") = some true) && (decide (PySem.W.typeIn K (.ref C) = some (.type "type")) && PySem.W.keepIn K (.ref C))))
theorem oexB_ok {K : PySem.W.Frag} {C : Addr} (h : oexB K C = true) : OexC K C := by
  unfold oexB at h
  obtain ⟨h1, h⟩ := Bool.and_eq_true_iff.mp h
  obtain ⟨h2, h⟩ := Bool.and_eq_true_iff.mp h
  obtain ⟨h3, h⟩ := Bool.and_eq_true_iff.mp h
  obtain ⟨h4, h5⟩ := Bool.and_eq_true_iff.mp h
  refine ⟨?_, of_decide_eq_true h2, of_decide_eq_true h3, of_decide_eq_true h4, h5⟩
  split at h1
  · rename_i dd cd sl ho
    split at h1
    · rename_i C' bm k0 k1 k2 k3 n k5 hm hs
      simp only [Bool.and_eq_true, beq_iff_eq, Bool.not_eq_true'] at h1
      obtain ⟨⟨⟨⟨rfl, rfl⟩, hdel⟩, hdc⟩, ht⟩ := h1
      obtain ⟨nm, bs, mro, ns, qn, hd, sn, sub, ab, col, del⟩ := cd
      dsimp only at hm hdel hdc
      subst hm hdel hdc
      have hsl : sl = #[k0, k1, k2, k3, some (.builtin "ValueError.__new__"), k5] := by
        obtain ⟨l⟩ := sl
        simp only at hs
        rw [hs]
      subst hsl
      exact ⟨nm, qn, ns, bs, bm, sn, sub, ab, col, dd, k0, k1, k2, k3, k5, ho, ht⟩
    · cases h1
  · cases h1
/-! ### __init__ with one field, with two -/
def spI1 (K : PySem.W.Frag) (f : Str) : Sp := fun vs H Q _ => ∃ (a C : Addr) (y : V), vs = [.ref a, y] ∧ OexC K C ∧ PySem.W.findIn K (.ref C) f = some none ∧ H a = some (exo a C none) ∧
  ∀ dx, H dx = none → dx ≠ a → Q .non (upd (upd H dx (exd dx [(f, y)])) a (exo a C (some dx)))
def tI1 (K : PySem.W.Frag) (f : Str) : TS := tOst K f (tVar 0) (tVar 1)
theorem pureI1 {K : PySem.W.Frag} {f : Str} {N : List Str} (hN : N.length = 2) (vs : List V) (H : Hp) (Q : VK) (E : XK) (h : spI1 K f vs H Q E) : tI1 K f { nx := fun _ H' => Q .non H', rt := Q } (start N vs) H := by
  obtain ⟨a, C, y, rfl, T, n, e, q⟩ := h
  have s0 : (start N [.ref a, y])[0]? = some (some (.ref a)) := by simp [L2.start]
  have s1 : (start N [.ref a, y])[1]? = some (some y) := by simp [L2.start]
  exact ⟨y, s1, .ref a, s0, a, C, rfl, T, n, .inl ⟨e, fun dx h1 h2 => q dx h1 h2⟩⟩
/-! ### raise C(..) -/
def tRaiseO (C : Addr) (sp : Sp) (ta : TA) (W : WX) : TS := fun _ σ H => tMkO C sp [] ta σ H fun cls d H' => W cls d σ H'
def mRaise (cn : Str) (fs : List Str) (m : MA) : MS := fun env te => (m env te).fl fun as e => match dAll as with
  | some xs => if xs.length = fs.length then .ex ⟨cn, (fs.zip xs).reverse⟩ e else .bad
  | none => .bad
section
variable {K : KW} {B : Bs} {W : WX}
theorem mk_heap {H : Hp} {a dx : Addr} {o1 : HO} {fs : List (Str × V)} {fs' : List (Str × V)} (ha : H a = none) (hd : dx ≠ a) (u : HO) : upd (del (upd (upd (upd H a o1) dx (exd dx fs)) a u) a) dx (.xd fs') = upd H dx (.xd fs') := by
  funext b
  by_cases c1 : b = dx
  · rw [c1, upd_same, upd_same]
  · rw [upd_ne c1, upd_ne c1]
    by_cases c2 : b = a
    · rw [c2, del_same, ha]
    · rw [del_ne c2, upd_ne c2, upd_ne c1, upd_ne c2]
theorem ss_raise1 {cn f : Str} {t : TA} {m : MA} (T : OexC K (He.ga K cn)) (n1 : PySem.W.findIn K (.ref (He.ga K cn)) f = some none) (h : SA K B W t m) : SS K B W (tRaiseO (He.ga K cn) (spI1 K f) t W) (mRaise cn [f] m) := by
  intro σ env ts te H D R p
  refine h σ env ts te H _ R ?_
  unfold mRaise at p
  cases q : m env te with
  | ex x e => rw [q] at p; exact p σ
  | bad => rw [q] at p; exact p
  | ok as e =>
    rw [q] at p
    simp only [Rs.fl_ok] at p
    intro vs H1 hl R1
    cases q2 : dAll as with
    | none => simp only [q2] at p; exact False.elim p
    | some xs =>
      simp only [q2] at p
      split at p
      · rename_i hz
        obtain ⟨F, O, R2, d⟩ := args_dn hl R1 q2
        obtain ⟨x, rfl⟩ : ∃ x, xs = [x] := by
          match xs, hz with
          | [x], _ => exact ⟨x, rfl⟩
        cases d with
        | @cons y _ _ _ dy dr =>
          cases dr
          refine ⟨by simp, fun a na => ⟨a, He.ga K cn, y, rfl, T, n1, upd_same, fun dx hd hne => ⟨rfl, dx, [(f, y)], upd_same, by rw [upd_ne hne, upd_same], ?_, ?_⟩⟩⟩
          · rw [upd_ne hne] at hd
            exact hd
          · rw [mk_heap na hne]
            have hd' : H1 dx = none := by rw [upd_ne hne] at hd; exact hd
            have R3 := R2.new hd' (.xd [(f, y)])
            have d2 : DnAll K F [y] [x] := .cons dy .nil
            exact p σ _ _ _ [y] _ _ R3 (d2.same (same_newV (R2.fresh hd').1)) ⟨rfl, .inr ⟨dx, rfl, upd_same⟩⟩
      · exact False.elim p
end
/-- a class's __init__, called while an exception is made -/
structure IniX (P : Program) (w : World) (K : PySem.W.Frag) (mg : Str → Option Value) (base : Heap) (cn : Str) (sp : Sp) : Prop where
  gC : mg cn = some (.ref (He.ga K cn))
  T : OexC K (He.ga K cn)
  ex : ∃ (fI : Addr) (fd : FuncData) (ps : List Str), PySem.W.findIn K (.ref (He.ga K cn)) "__init__" = some (some (.ref fI)) ∧ PySem.W.typeIn K (.ref fI) = some (.type "function") ∧ FnOk P w K mg base CX0 1 fI fd ps sp ∧ Binds K fd ps []
theorem ps_raiseO {X : Cx} {W : WX} {j : Nat} {cn : Str} {sp : Sp} {ta : TA} {e : Expr} {es : List Expr} {p pos pos' : Pos} (c : IniX X.prog X.w X.K X.mg X.base cn sp) (hc : X.calm = true) (tk : Takes X W) (hr : Room j X.A) (hk : 2 ≤ j) (hg : Gl X cn) (ha : PA X (e :: es) ta)
    (hdb : (cn == ("__debug__" : Str)) = false := by decide) (he : starEach (e :: es) X.env = (false, eval e X.env) :: starEach es X.env := by rfl) (hpl : (backTo pos (starEach es X.env)).any (·.1) = false := by rfl) :
    PS X (.Raise (some (.Call (.Name cn p) (e :: es) [] pos)) none pos') (tRaiseO (He.ga X.K cn) sp ta W) := by
  obtain ⟨fI, fd, ps, iC, tI, F, b⟩ := c.ex
  exact ps_raise hc tk (pmk_oex c.T iC tI F (hr.mono hk) b .nil pass0 hg c.gC ha hdb he hpl)
end Tw

namespace Tw
open PySem PySem.Spec PyProof.Rows L2
/-! ### try .. except C as e -/
def isXr : A → Bool
  | .xr _ => true
  | _ => false
/-- without the caught exception -/
def cutE (env : Env) : Env := env.map fun c => match c with
  | some (.xr _) => none
  | c => c
def cutA : A → A
  | .xr _ => .d .none
  | a => a
def cutT : List V → List A → List V
  | _ :: ts, .xr _ :: te => .non :: cutT ts te
  | v :: ts, _ :: te => v :: cutT ts te
  | ts, _ => ts
theorem cutT_len : ∀ (ts : List V) (te : List A), (cutT ts te).length = ts.length
  | [], [] => rfl
  | [], _ :: _ => rfl
  | _ :: _, [] => rfl
  | _ :: ts, a :: te => by cases a <;> simp [cutT, cutT_len ts te]
theorem cutE_get {env : Env} {i : Nat} {a : A} (h : (cutE env)[i]? = some (some a)) : env[i]? = some (some a) ∧ isXr a = false := by
  unfold cutE at h
  rw [List.getElem?_map] at h
  cases e : env[i]? with
  | none => rw [e] at h; cases h
  | some c =>
    rw [e] at h
    cases c with
    | none => cases h
    | some b => cases b <;> first | (cases h; exact ⟨rfl, rfl⟩) | (cases h)
section
variable {K : KW} {B B' : Bs} {F H : Hp} {O : Addr → Option Nat} {σ : List (Option V)} {env : Env} {ts : List V} {te : List A}
theorem CellO.base {c : Addr × Value × Option Addr} {j : Nat} {v : V} {a : A} (h : CellO K B F H O σ j v a) (n : isXr a = false) : CellO K { B with xc := c } F H O σ j v a := by
  cases a <;> first | exact h | (cases n)
theorem TmO.cut {c : Addr × Value × Option Addr} : ∀ {ts : List V} {te : List A}, TmO K B F H O σ ts te → TmO K { B with xc := c } F H O σ (cutT ts te) (te.map cutA)
  | [], [], _ => trivial
  | v :: ts, a :: te, h => by
    have r := TmO.cut (c := c) h.2
    have l := cutT_len ts te
    cases a with
    | xr x => exact ⟨.non, r⟩
    | d x => refine ⟨?_, r⟩; rw [l]; exact CellO.base h.1 rfl
    | own x => refine ⟨?_, r⟩; rw [l]; exact CellO.base h.1 rfl
    | io x => refine ⟨?_, r⟩; rw [l]; exact CellO.base h.1 rfl
    | rf x y => refine ⟨?_, r⟩; rw [l]; exact CellO.base h.1 rfl
    | sc x => refine ⟨?_, r⟩; rw [l]; exact CellO.base h.1 rfl
    | q x => refine ⟨?_, r⟩; rw [l]; exact CellO.base h.1 rfl
    | lk x => refine ⟨?_, r⟩; rw [l]; exact CellO.base h.1 rfl
  | [], _ :: _, h => h.elim
  | _ :: _, [], h => h.elim
theorem RelF.cut (c : Addr × Value × Option Addr) (R : RelF K B F O σ env ts te H) : RelF K { B with xc := c } F O σ (cutE env) (cutT ts te) (te.map cutA) H := by
  refine ⟨by unfold cutE; rw [List.length_map]; exact R.ln, fun i a e => ?_, R.tm.cut, R.sf, fun a j z => ?_, R.b1, R.b2, R.b3, R.b5, fun i hi => ?_, R.tb⟩
  · obtain ⟨e1, e2⟩ := cutE_get e
    obtain ⟨v, h1, h2⟩ := R.sl i a e1
    exact ⟨v, h1, h2.base e2⟩
  · obtain ⟨h1, h2, h3, h4⟩ := R.of a j z
    exact ⟨h1, h2, by rw [cutT_len]; exact h3, h4⟩
  · obtain ⟨o, ho⟩ := R.bi i hi
    refine ⟨o, ?_⟩
    unfold cutE
    rw [List.getElem?_map, ho]
    rfl
end
end Tw

namespace Tw
open PySem PySem.Spec PyProof.Rows L2
/-! ### the words that the printed texts use -/
/-! ### try .. except C: without a name -/
section
variable {X : Cx} {cn n : Str} {i : Nat} {body suite : List Stmt} {b₀ : Stmt} {np pos pos' : Pos} {tb : WX → TS} {ts : Addr → Value → Option Addr → TS} {tso : TS} {Wout : WX}
end
section
variable {P : Program} {w : World} {K : PySem.W.Frag} {mg : Str → Option Value} {base : Heap}
theorem ini_of {cn qual : Str} {st : Stmt} {N ps : List Str} {sp : Sp} {t : TS} (gC : mg cn = some (.ref (He.ga K cn))) (T : OexC K (He.ga K cn)) {fI : Addr} (M : Meth K (He.ga K cn) "__init__" fI)
    (D : ∃ fd, FunD K "__init__" qual (defArgs st) (defBody st) (defScope st) [] [] fI fd)
    (hb : ∀ (kV doc pm : Value) (an : Option Addr) (cdv ct : Value) (us : List Value), us.length = ps.length → bindArgs (PySem.W.fnOf "__init__" qual (defArgs st) (defBody st) (defScope st) .none kV doc pm an cdv ct) ⟨us, []⟩ = pure (ps.zip us))
    (S : FnScope N ps (defScope st)) (len : ∀ vs H Q E, sp vs H Q E → vs.length = ps.length)
    (body : ∀ (cdv : Value) (f : Addr) (A : Around) (outer : List PySem.Env) (s : Shared) (H : Hp) (E : XK), Room 0 (A.deeper (envOfC qual (defScope st) s.heap.objs.size f cdv)) →
      PSs (cxOf CX0 P w K mg base N qual (defScope st) f cdv A outer s H E).nox (defBody st) t)
    (pure_ : ∀ (vs : List V) (H : Hp) (Q : VK) (E : XK), sp vs H Q E → t { nx := fun _ H' => Q .non H', rt := Q } (start N vs) H) : IniX P w K mg base cn sp := by
  obtain ⟨fd, F⟩ := D
  exact ⟨gC, T, fI, fd, ps, M.at_, eq_of_beq M.fn, F.ok S len fun cdv A outer s H vs Q E hr h => ⟨t, (body cdv fI A outer s H E hr).nox, pure_ vs H Q E h⟩, F.bindsN hb⟩
end
end Tw

namespace Tw
open PySem PySem.Spec PyProof.Rows L2
/-! ### instances of own classes: fields, methods, making -/
/-- a field of the class's instances -/
structure ObC (K : PySem.W.Frag) (c f : Str) : Prop where
  cls : Cls K (He.ga K c)
  no : NoAttr K (He.ga K c) f
def putS (f : Str) (x : Dt) : List (Str × Dt) → List (Str × Dt)
  | [] => [(f, x)]
  | (g, y) :: r => if g = f then (g, x) :: r else (g, y) :: putS f x r
/-- the class and the fields of what is told -/
def obA (env : Env) (a : A) : Option (Str × List (Str × Dt)) := match a.ow env with
  | some (.x (.ob c fs)) => some (c, fs)
  | _ => none
theorem obA_ow {env : Env} {a : A} {c : Str} {fs : List (Str × Dt)} (h : obA env a = some (c, fs)) : a.ow env = some (.x (.ob c fs)) := by
  unfold obA at h
  split at h
  · rename_i e; cases h; exact e
  · cases h
theorem ob_len {α β : Type} {R : α → β → Prop} : ∀ {xs : List α} {ys : List β}, Paired R xs ys → xs.length = ys.length
  | _, _, .nil => rfl
  | _, _, .cons _ r => congrArg (· + 1) (ob_len r)
section
variable {K : KW} {F : Hp}
theorem ob_lookup {us : List (Str × V)} {fs : List (Str × Dt)} (p : Paired (fun (p : Str × V) (q : Str × Dt) => p.1 = q.1 ∧ Dn K F p.2 q.2) us fs) (f : Str) :
    (∀ x, fs.lookup f = some x → ∃ v, us.lookup f = some v ∧ Dn K F v x) ∧ (fs.lookup f = none → us.lookup f = none) := by
  induction p with
  | nil => exact ⟨(fun x h => nomatch h), fun _ => rfl⟩
  | @cons a b as bs h _ ih =>
    obtain ⟨g, v⟩ := a
    obtain ⟨g', d⟩ := b
    obtain ⟨e, r⟩ := h
    cases e
    rw [List.lookup_cons, List.lookup_cons]
    cases q : (f == g) with
    | true => exact ⟨fun x h => ⟨v, rfl, by cases h; exact r⟩, fun h => nomatch h⟩
    | false => exact ih
theorem ob_put {us : List (Str × V)} {fs : List (Str × Dt)} (p : Paired (fun (p : Str × V) (q : Str × Dt) => p.1 = q.1 ∧ Dn K F p.2 q.2) us fs) {f : Str} {v : V} {x : Dt} (h : Dn K F v x) :
    Paired (fun (p : Str × V) (q : Str × Dt) => p.1 = q.1 ∧ Dn K F p.2 q.2) (putF f v us) (putS f x fs) := by
  induction p with
  | nil => exact .cons ⟨rfl, h⟩ .nil
  | @cons a b as bs r r2 ih =>
    obtain ⟨g, v'⟩ := a
    obtain ⟨g', d⟩ := b
    obtain ⟨e, r⟩ := r
    cases e
    unfold putF putS
    by_cases c : g = f
    · rw [if_pos c, if_pos c]
      exact .cons ⟨rfl, h⟩ r2
    · rw [if_neg c, if_neg c]
      exact .cons ⟨rfl, r⟩ ih
end
theorem mutO_ins (C dx : Addr) (fs : List (Str × V)) : MutO (some (.ins C dx fs)) := ⟨nofun, fun _ z => (nomatch z), (fun _ _ z => nomatch z), (fun _ z => nomatch z), (fun _ z => nomatch z), fun _ _ z => by unfold LamX.CodeO at z; cases z⟩
theorem mutO_own (x : Addr) : MutO (some (.own x)) := ⟨nofun, fun _ z => (nomatch z), (fun _ _ z => nomatch z), (fun _ z => nomatch z), (fun _ z => nomatch z), fun _ _ z => by unfold LamX.CodeO at z; cases z⟩
theorem obs_nil {K : PySem.W.Frag} {f : Str} : ∀ c ∈ ([] : List Str), ObC K c f := fun _ h => nomatch h
theorem obs_cons {K : PySem.W.Frag} {c f : Str} {cs : List Str} (h : ObC K c f) (r : ∀ c ∈ cs, ObC K c f) : ∀ x ∈ c :: cs, ObC K x f := fun x hx => by
  rcases List.mem_cons.mp hx with rfl | hx
  · exact h
  · exact r x hx
/-! ### e.f -/
def mFld (cs : List Str) (f : Str) (m : ME) : ME := fun env te => (m env te).bind fun a e => match obA e a with
  | some (c, fs) => if c ∈ cs then (match fs.lookup f with
    | some d => .ok (.d d) e
    | none => .bad) else .bad
  | none => .bad
section
variable {K : KW} {B : Bs} {W : WX}
theorem se_fld {cs : List Str} {f : Str} {t : TE} {m : ME} (hc : ∀ c ∈ cs, ObC K c f) (h : SE K B W t m) : SE K B W (tFld K t f) (mFld cs f m) := by
  intro σ env ts te H Q R p
  refine h.thE R p fun a e p v H1 R1 => ?_
  obtain ⟨F, O, R1⟩ := R1
  cases q : obA e a with
  | none => simp only [q] at p; exact False.elim p
  | some cf =>
    obtain ⟨c, fs⟩ := cf
    simp only [q] at p
    split at p
    case isFalse => exact False.elim p
    rename_i mc
    cases l : fs.lookup f with
    | none => simp only [l] at p; exact False.elim p
    | some d =>
      simp only [l] at p
      obtain ⟨own, z⟩ := cell_ow R1 R1.tm.1 (obA_ow q)
      obtain ⟨x, dx, us, rfl, _, _, hx, _, pr⟩ := (show XtO K F H1 own v (.ob c fs) from z)
      obtain ⟨w, hw, dw⟩ := (ob_lookup pr f).1 d l
      exact ⟨x, _, dx, us, w, rfl, hx, (hc c mc).cls, (hc c mc).no, hw, p w H1 (RelF.pushD (RelF.pop R1) dw)⟩
end
/-! ### x.f = e -/
/-- the instance that the slot tells, with another value of a field -/
def setOb (env : Env) (te : List A) (a : A) (cs : List Str) (f : Str) (x : Dt) : Option Env := match a with
  | .rf i none => (match owAt env i with
    | some (.x (.ob c fs)) => if c ∈ cs ∧ fs.length < 1000 ∧ anyC (isNest i) env te = false then some (setOw env i (.io (.x (.ob c (putS f x fs))))) else none
    | _ => none)
  | _ => none
section
variable {K : KW} {B : Bs} {W : WX} {F H : Hp} {O : Addr → Option Nat} {σ : List (Option V)} {env : Env} {ts : List V} {te : List A}
theorem rel_setOb (R : RelF K B F O σ env ts te H) {cs : List Str} {f : Str} {x : Dt} {w v : V} {a : A} {env' : Env} (c : ∀ i p, a = .rf i p → ∃ w', σ[i]? = some (some w') ∧ atP H O i w' w p) (hv : Dn K F v x) (hs : setOb env te a cs f x = some env') :
    ∃ p C dx us, w = .ref p ∧ C ∈ cs ∧ us.length < 1000 ∧ H p = some (.ins (He.ga K C) dx us) ∧ RelF K B F O σ env' ts te (upd H p (.ins (He.ga K C) dx (putF f v us))) ∧
      ∃ fs, obA env a = some (C, fs) ∧ Paired (fun (p : Str × V) (q : Str × Dt) => p.1 = q.1 ∧ Dn K F p.2 q.2) us fs := by
  unfold setOb at hs
  split at hs
  case h_2 => cases hs
  rename_i i
  split at hs
  case h_2 => cases hs
  rename_i C fs eo
  split at hs
  case isFalse => cases hs
  rename_i hk
  obtain ⟨k1, k2, k3⟩ := hk
  cases hs
  obtain ⟨w', hw', e⟩ := c i none rfl
  cases e
  have z := R.owAt eo hw'
  obtain ⟨p, dx, us, rfl, o1, o2, hx, hdx, pr⟩ := (show XtO K F H (fun a => O a = some i) w (.ob C fs) from z)
  have lu : us.length < 1000 := by rw [ob_len pr]; exact k2
  refine ⟨p, C, dx, us, rfl, k1, lu, hx, ?_, fs, ?_, pr⟩
  · have hH : ∀ b, O b ≠ some i → upd H p (.ins (He.ga K C) dx (putF f v us)) b = H b := fun b nb => upd_ne (fun e => nb (by rw [e]; exact o1))
    have ne : dx ≠ p := by
      rintro rfl
      rw [hx] at hdx
      cases hdx
    have hn : ∀ b, O b = some i → MutO (upd H p (.ins (He.ga K C) dx (putF f v us)) b) := fun b ob => by
      by_cases e : b = p
      · rw [e, upd_same]; exact mutO_ins _ _ _
      · rw [upd_ne e]; exact (R.of b i ob).2.1
    have new : ∀ P : Addr → Prop, P p → P dx → OwO K F (upd H p (.ins (He.ga K C) dx (putF f v us))) P (.ref p) (.x (.ob C (putS f x fs))) := fun P hp hd =>
      ⟨p, dx, putF f v us, rfl, hp, hd, upd_same, by rw [upd_ne ne]; exact hdx, ob_put pr hv⟩
    rcases owAt_cell eo with ec | ec
    · have : setOw env i (.io (.x (.ob C (putS f x fs)))) = env.set i (some (.own (.x (.ob C (putS f x fs))))) := by unfold setOw; rw [ec]
      rw [this]
      obtain ⟨w2, hw2, cc⟩ := R.sl i _ ec
      rw [hw'] at hw2
      cases hw2
      obtain ⟨p2, dx2, us2, e2, q1, q2, hx2, _⟩ := (show XtO K F H (fun a => O a = some i ∧ B.H a = none) (.ref p) (.ob C fs) from cc)
      cases e2
      rw [hx] at hx2
      cases hx2
      exact R.mut ec hw' hH hn (new _ q1 q2) k3 (fun o e => nomatch e)
    · have : setOw env i (.io (.x (.ob C (putS f x fs)))) = env.set i (some (.io (.x (.ob C (putS f x fs))))) := by unfold setOw; rw [ec]
      rw [this]
      obtain ⟨w2, hw2, cc⟩ := R.sl i _ ec
      rw [hw'] at hw2
      cases hw2
      exact R.mut ec hw' hH hn ⟨new _ o1 o2, cc.2⟩ k3 (fun o e => ⟨_, rfl⟩)
  · show obA env (.rf i none) = _
    unfold obA
    show (match owAt env i with | some (.x (.ob c fs)) => some (c, fs) | _ => none) = _
    rw [eo]
end
def mSetF (cs : List Str) (f : Str) (i : Nat) (mv : ME) : MS := fun env te => match mv env te with
  | .ok (.d x) e => (match e[i]? with
    | some (some a) => (match setOb e te (vA i a) cs f x with
      | some e' => .nx e'
      | none => .bad)
    | _ => .bad)
  | .ok _ _ => .bad
  | .ex x e => .ex x e
  | .bad => .bad
section
variable {K : KW} {B : Bs} {W : WX}
theorem vA_cell {F H : Hp} {O : Addr → Option Nat} {σ : List (Option V)} {env : Env} {ts : List V} {te : List A} (R : RelF K B F O σ env ts te H) {i : Nat} {a : A} {v : V} (e : env[i]? = some (some a)) (hv : σ[i]? = some (some v)) :
    ∀ j p, vA i a = .rf j p → ∃ w', σ[j]? = some (some w') ∧ atP H O j w' v p := fun j p h => by
  obtain ⟨v', hv', c⟩ := R.sl i a e
  rw [hv] at hv'
  cases hv'
  cases a with
  | own o => cases h; exact ⟨v, hv, rfl⟩
  | io o => cases h; exact ⟨v, hv, rfl⟩
  | rf i' p' => cases h; exact c
  | _ => cases h
theorem ss_setF {cs : List Str} {f : Str} {i : Nat} {t : TE} {m : ME} (hc : ∀ c ∈ cs, ObC K c f) (h : SE K B W t m) : SS K B W (sFld K (tVar i) t f) (mSetF cs f i m) := by
  intro σ env ts te H D R p
  unfold mSetF at p
  refine h σ env ts te H _ R ?_
  cases q : m env te with
  | bad => rw [q] at p; exact p
  | ex x e => rw [q] at p; exact p σ
  | ok a e =>
    rw [q] at p
    cases a with
    | d x =>
      simp only at p
      intro y H1 R1
      cases qe : e[i]? with
      | none => simp only [qe] at p; exact False.elim p
      | some oc =>
        cases oc with
        | none => simp only [qe] at p; exact False.elim p
        | some a =>
          simp only [qe] at p
          cases qs : setOb e te (vA i a) cs f x with
          | none => simp only [qs] at p; exact False.elim p
          | some e' =>
            simp only [qs] at p
            obtain ⟨F, O, R1⟩ := R1
            have dy : Dn K F y x := R1.tm.1
            have R2 := RelF.pop R1
            obtain ⟨v, hv, _⟩ := R2.sl i a qe
            obtain ⟨pp, C, dx, us, rfl, mc, lu, hx, R3, _⟩ := rel_setOb R2 (vA_cell R2 qe hv) dy qs
            exact ⟨.ref pp, hv, pp, _, dx, us, rfl, hx, (hc C mc).cls, (hc C mc).no, lu, p σ _ ⟨_, _, R3⟩⟩
    | _ => exact False.elim p
end
/-! ### x.f += e, whole numbers -/
section
variable {K : KW} {B : Bs} {W : WX}
end
/-! ### o.m(..) -/
section
variable {K : KW} {B : Bs} {W : WX}
end
/-- a method of a class, that may raise -/
structure MetX (P : Program) (w : World) (K : PySem.W.Frag) (mg : Str → Option Value) (base : Heap) (k : Nat) (c m : Str) (sp : Sp) : Prop where
  cls : Cls K (He.ga K c)
  ex : ∃ (f : Addr) (fd : FuncData) (ps : List Str), FnOk P w K mg base (L2.CX P w) k f fd ps sp ∧ Meth K (He.ga K c) m f ∧ Binds K fd ps []
section
variable {P : Program} {w : World} {K : PySem.W.Frag} {mg : Str → Option Value} {base : Heap}
theorem metX_of {c m q : Str} {st : Stmt} {N ps : List Str} {k : Nat} {sp : Sp} {f : Addr} (C : Cls K (He.ga K c)) (hm : Meth K (He.ga K c) m f) (D : ∃ fd, FunD K m q (defArgs st) (defBody st) (defScope st) [] [] f fd)
    (hb : ∀ (kV doc pm : Value) (an : Option Addr) (cdv ct : Value) (us : List Value), us.length = ps.length → bindArgs (PySem.W.fnOf m q (defArgs st) (defBody st) (defScope st) .none kV doc pm an cdv ct) ⟨us, []⟩ = pure (ps.zip us))
    (S : FnScope N ps (defScope st)) (len : ∀ vs H Q E, sp vs H Q E → vs.length = ps.length) {t : WX → TS}
    (body : ∀ (cdv : Value) (f : Addr) (A : Around) (outer : List PySem.Env) (s : Shared) (H : Hp) (E : XK), Room k (A.deeper (envOfC q (defScope st) s.heap.objs.size f cdv)) →
      Takes (cxOf (L2.CX P w) P w K mg base N q (defScope st) f cdv A outer s H E) (WE E) → PassesOwn (model P w) (cxOf (L2.CX P w) P w K mg base N q (defScope st) f cdv A outer s H E).A (cxOf (L2.CX P w) P w K mg base N q (defScope st) f cdv A outer s H E).env (cxOf (L2.CX P w) P w K mg base N q (defScope st) f cdv A outer s H E).xe →
      PSs (cxOf (L2.CX P w) P w K mg base N q (defScope st) f cdv A outer s H E) (defBody st) (t (WE E)))
    (pure_ : ∀ (vs : List V) (H : Hp) (Q : VK) (E : XK), sp vs H Q E → t (WE E) { nx := fun _ H' => Q .non H', rt := Q } (start N vs) H) : MetX P w K mg base (k + 1) c m sp := by
  obtain ⟨fd, F⟩ := D
  exact ⟨C, f, fd, ps, F.ok S len fun cdv A outer s H vs Q E hr h => ⟨t (WE E), body cdv f A outer s H E hr (takes_of rfl rfl rfl rfl) (passes_of rfl), pure_ vs H Q E h⟩, hm, F.bindsN hb⟩
end
section
variable {X : Cx} {W : WX} {k j : Nat} {cn m : Str} {sp : Sp} {apos pos : Pos} {o e : Expr} {es : List Expr} {ta : TE} {t : TA}
theorem passX0 {X : Cx} : Passes (L2.CX X.prog X.w) X.nox E0 := fun pins σ H s e s' I h => by
  obtain ⟨_, _, _, _, _, _, _, _, _, _, _, _, h⟩ := h
  exact h.elim
theorem passX {X : Cx} : Passes (L2.CX X.prog X.w) X E0 := fun pins σ H s e s' I h => by
  obtain ⟨_, _, _, _, _, _, _, _, _, _, _, _, h⟩ := h
  exact h.elim
end
end Tw

namespace Tw
open PySem PySem.Spec PyProof.Rows L2
/-! ### C(..) -/
def newH (KF : PySem.W.Frag) (c : Str) (H : Hp) (x dx : Addr) : Hp := upd (upd H dx (.own x)) x (.ins (He.ga KF c) dx [])
def newS (x dx : Addr) : Addr → Option Nat := fun b => if b = x ∨ b = dx then some 0 else none
theorem newS_some {x dx b : Addr} {j : Nat} (h : newS x dx b = some j) : j = 0 ∧ (b = x ∨ b = dx) := by
  unfold newS at h
  split at h
  · rename_i c; cases h; exact ⟨rfl, c⟩
  · cases h
theorem newH_ne {KF : PySem.W.Frag} {c : Str} {H : Hp} {x dx b : Addr} (h1 : b ≠ x) (h2 : b ≠ dx) : newH KF c H x dx b = H b := by
  unfold newH
  rw [upd_ne h1, upd_ne h2]
section
variable {K : KW} {B : Bs} {F F' H H' : Hp} {O : Addr → Option Nat} {σ : List (Option V)} {env : Env} {ts : List V} {te : List A}
theorem make_start (R : RelF K B F O σ env ts te H) {x dx : Addr} (hx : H x = none) (hdx : H dx = none) (ne : dx ≠ x) {vs : List V} {ds : List Dt} (d : DnAll K F vs ds) (c : Str) :
    RelF K ⟨newH K c H x dx, F, newS x dx, .ref x :: vs, fun i => i == 0, (0, .none, none)⟩ F (newS x dx) ((V.ref x :: vs).map some) ((A.io (.x (.ob c [])) :: ds.map .d).map some) [] [] (newH K c H x dx) := by
  have hb : ∀ b o, H b = some o → b ≠ x ∧ b ≠ dx := fun b o e => ⟨fun z => (by rw [z, hx] at e; cases e), fun z => (by rw [z, hdx] at e; cases e)⟩
  have up : ∀ b o, H b = some o → newH K c H x dx b = some o := fun b o e => by rw [newH_ne (hb b o e).1 (hb b o e).2]; exact e
  refine ⟨by rw [List.length_map, List.length_map, List.length_cons, List.length_cons, List.length_map, d.length], fun i a e => ?_, trivial, fun b o e => up b o (R.sf b o e), fun a j z => ?_, Same.refl _, fun b o _ _ e => e, fun b h1 h2 => absurd h1 h2, fun b h => h, fun k hk => ?_, fun p hp => ⟨R.noF hp, ?_, ?_⟩, R.tb.2.mono fun b o _ e => up b o e⟩
  · cases i with
    | zero =>
      have e : some (A.io (.x (.ob c []))) = some a := Option.some.inj (show some (some (A.io (.x (.ob c [])))) = some (some a) from e)
      cases e
      refine ⟨.ref x, rfl, ⟨x, dx, [], rfl, ?_, ?_, ?_, ?_, .nil⟩, rfl⟩
      · show newS x dx x = some 0
        unfold newS; rw [if_pos (.inl rfl)]
      · show newS x dx dx = some 0
        unfold newS; rw [if_pos (.inr rfl)]
      · unfold newH; rw [upd_same]
      · unfold newH; rw [upd_ne ne, upd_same]
    | succ i =>
      have e : ((ds.map A.d).map some)[i]? = some (some a) := by simpa using e
      rw [List.getElem?_map, List.getElem?_map] at e
      cases q : ds[i]? with
      | none => rw [q] at e; cases e
      | some y =>
        rw [q] at e
        cases e
        obtain ⟨v, hv, dv⟩ := d.get q
        refine ⟨v, ?_, dv⟩
        show ((V.ref x :: vs).map some)[i + 1]? = some (some v)
        rw [List.getElem?_map, List.getElem?_cons_succ, hv]
        rfl
  · obtain ⟨rfl, h⟩ := newS_some z
    refine ⟨?_, ?_, by rw [List.length_map, List.length_cons]; exact Nat.succ_pos _, .inr ⟨z, rfl⟩⟩
    · rcases h with rfl | rfl
      · exact Same.free R.sf hx
      · exact Same.free R.sf hdx
    · rcases h with rfl | rfl
      · unfold newH; rw [upd_same]; exact mutO_ins _ _ _
      · unfold newH; rw [upd_ne ne, upd_same]; exact mutO_own _
  · have e : k = 0 := beq_iff_eq.mp hk
    subst e
    exact ⟨_, rfl⟩
  · have h := (R.tabO hp).2
    show newH K c H x dx p.1 ≠ none
    cases q : H p.1 with
    | none => exact absurd q h
    | some o => rw [up _ _ q]; exact nofun
  · show newS x dx p.1 = none
    have h := (R.tabO hp).2
    unfold newS
    rw [if_neg]
    rintro (z | z)
    · rw [z] at h; exact h hx
    · rw [z] at h; exact h hdx
/-- behind the call that made it -/
theorem make_back (R : RelF K B F O σ env ts te H) {x dx : Addr} (hx : H x = none) (hdx : H dx = none) {c : Str} {vs : List V} {io : Nat → Bool} {z : Addr × Value × Option Addr} {O' : Addr → Option Nat} {σ' : List (Option V)} {env' : Env} {ts' : List V} {te' : List A}
    (R' : RelF K ⟨newH K c H x dx, F, newS x dx, vs, io, z⟩ F' O' σ' env' ts' te' H') : RelF K B F' O σ env ts te H' := by
  have hb : ∀ b o, H b = some o → b ≠ x ∧ b ≠ dx := fun b o e => ⟨fun z => (by rw [z, hx] at e; cases e), fun z => (by rw [z, hdx] at e; cases e)⟩
  have up : ∀ b o, H b = some o → newH K c H x dx b = some o := fun b o e => by rw [newH_ne (hb b o e).1 (hb b o e).2]; exact e
  have sn : ∀ b o, H b = some o → newS x dx b = none := fun b o e => by
    unfold newS
    rw [if_neg]
    rintro (z | z)
    · exact (hb b o e).1 z
    · exact (hb b o e).2 z
  have k2 : ∀ b o, (∀ ps, o ≠ HO.tbl ps) → H b = some o → H' b = some o := fun b o ht e => R'.b2 b o (sn b o e) ht (up b o e)
  refine R.ext0 R'.b1 R'.sf (fun b j z => ?_) (fun b o _ ht e => k2 b o ht e) (fun b h1 h2 => ?_) (fun b h => ?_) R'.tb.2
  · obtain ⟨f1, m, _⟩ := R.of b j z
    cases q : H b with
    | none => exact absurd q m.1
    | some o =>
      refine ⟨k2 b o (fun ps e => m.2.2.2.2.1 ps (by rw [q, e])) q, ?_⟩
      cases q2 : F' b with
      | none => rfl
      | some u =>
        rcases R'.b3 b f1 (by rw [q2]; exact nofun) with w | w
        · have := up b o q
          rw [show newH K c H x dx b = none from w] at this
          cases this
        · exact absurd (sn b o q) w
  · rcases R'.b3 b h1 h2 with w | w
    · cases q : H b with
      | none => exact Classical.byContradiction fun z => R.b5 b z q
      | some o =>
        have := up b o q
        rw [show newH K c H x dx b = none from w] at this
        cases this
    · cases q : H b with
      | none => exact Classical.byContradiction fun z => R.b5 b z q
      | some o => exact absurd (sn b o q) w
  · cases q : H b with
    | none => exact absurd q h
    | some o =>
      refine R'.b5 b ?_
      show newH K c H x dx b ≠ none
      rw [up b o q]
      exact nofun
end
def isDt : A → Option Dt
  | .d x => some x
  | _ => none
def dts : List A → Option (List Dt)
  | [] => some []
  | a :: as => match isDt a, dts as with
    | some x, some xs => some (x :: xs)
    | _, _ => none
theorem dts_map : ∀ {as : List A} {ds : List Dt}, dts as = some ds → as = ds.map .d
  | [], ds, h => by cases h; rfl
  | a :: as, ds, h => by
    unfold dts at h
    cases a with
    | d x =>
      cases q : dts as with
      | none => rw [q] at h; cases h
      | some xs => rw [q] at h; cases h; rw [dts_map q]; rfl
    | _ => cases h
def mMake (c : Str) (n : Nat) (f : DF) (m : MA) : ME := fun env te => (m env te).bind fun as e => match dts as with
  | some ds => if ds.length = n then (match f (.io (.x (.ob c [])) :: ds.map .d) with
    | .ok (.d .none) (.io (.x (.ob c' fs)) :: _) => if c' = c then .ok (.own (.x (.ob c fs))) e else .bad
    | .ex x _ => .ex x e
    | _ => .bad) else .bad
  | none => .bad
section
variable {K : KW} {B : Bs} {W : WX}
theorem paired_dn {K : KW} {F H : Hp} {O : Addr → Option Nat} {σ : List (Option V)} : ∀ {vs : List V} {ds : List Dt}, Paired (fun v a => CellO K B F H O σ 0 v a) vs (ds.map .d) → DnAll K F vs ds
  | [], [], .nil => .nil
  | v :: vs, d :: ds, .cons h r => .cons h (paired_dn r)
theorem se_makeG {c : Str} {f : DF} {n : Nat} {t : TA} {m : MA} {sp : Sp} {E : L2.St → XK} (hsp : ∀ σ vs H Q, vs.length = n + 1 → spM K f vs H Q (fun cls d H => W cls d σ H) → sp vs H Q (E σ)) (h : SA K B W t m) :
    SE K B W (fun σ H Q => t σ H fun vs H1 => ∀ x dx, H1 x = none → H1 dx = none → dx ≠ x → sp (.ref x :: (vs ++ [])) (newH K c H1 x dx) (fun v H2 => v = .non ∧ Q (.ref x) H2) (E σ)) (mMake c n f m) := by
  intro σ env ts te H Q R p0
  refine h.thE R p0 fun as e p vs H1 hl R1 => ?_
  clear p0
  intro x dx hx hdx ne
  rw [List.append_nil]
  cases qd : dts as with
  | none => simp only [qd] at p; exact False.elim p
  | some ds =>
    have ea := dts_map qd
    simp only [qd] at p
    by_cases hn : ds.length = n
    case neg => rw [if_neg hn] at p; exact False.elim p
    rw [if_pos hn] at p
    subst ea
    have hvn : (V.ref x :: vs).length = n + 1 := by rw [List.length_cons, hl, List.length_map, hn]
    refine hsp σ _ _ _ hvn ?_
    obtain ⟨F, O, R1⟩ := R1
    obtain ⟨O3, R3, _, pr⟩ := args_cells (by rw [List.length_reverse, List.length_reverse]; exact hl) (fun a ha => by
      obtain ⟨y, _, rfl⟩ := List.mem_map.mp (List.mem_reverse.mp ha)
      rfl) R1
    have pr := paired_rev pr
    rw [List.reverse_reverse, List.reverse_reverse] at pr
    have dn := paired_dn pr
    have R2 := make_start R3 hx hdx ne dn c
    refine ⟨F, _, _, _, _, by rw [List.length_cons, List.length_cons, List.length_map, dn.length], fun i a ha => ?_, R2, ?_⟩
    · cases i with
      | zero => cases ha; exact .inr (.inr ⟨⟨_, rfl⟩, rfl⟩)
      | succ i =>
        have ha : (ds.map A.d)[i]? = some a := by simpa using ha
        rw [List.getElem?_map] at ha
        cases q : ds[i]? with
        | none => rw [q] at ha; cases ha
        | some y => rw [q] at ha; cases ha; exact .inl ⟨y, rfl⟩
    · cases qf : f (.io (.x (.ob c [])) :: ds.map .d) with
      | bad => rw [qf] at p; exact False.elim p
      | ex xc ios =>
        rw [qf] at p
        intro cls d H' us F' O' R' du xi
        exact p cls d H' us F' _ (make_back R3 hx hdx R') du xi
      | ok r ios =>
        rw [qf] at p
        split at p
        case h_3 => exact False.elim p
        case h_2 e => cases e
        rename_i c' fs rest e
        cases e
        by_cases ec : c' = c
        case neg => rw [if_neg ec] at p; exact False.elim p
        rw [if_pos ec] at p
        subst ec
        intro F' O' v H' R' cr
        have ev : v = .non := by
          have cr : Dn K F' v .none := cr
          cases cr
          rfl
        refine ⟨ev, p (.ref x) H' ?_⟩
        have R4 := make_back R3 hx hdx R'
        obtain ⟨v0, hv0, co⟩ := R'.sl 0 _ rfl
        have ev0 : v0 = .ref x := by cases hv0; rfl
        subst ev0
        have hb : ∀ a, O' a = some 0 → H1 a = none := fun a z => by
          rcases (R'.of a 0 z).2.2.2 with w | w
          · cases q : H1 a with
            | none => rfl
            | some o =>
              have n1 : a ≠ x := fun z => by rw [z, hx] at q; cases q
              have n2 : a ≠ dx := fun z => by rw [z, hdx] at q; cases q
              have w : newH K c' H1 x dx a = none := w
              rw [newH_ne n1 n2, q] at w
              cases w
          · rcases (newS_some w.1).2 with rfl | rfl
            · exact hx
            · exact hdx
        refine ⟨_, _, R4.pushOwn (fun a => O' a = some 0) (fun a z => ⟨?_, (R'.of a 0 z).1, (R'.of a 0 z).2.1, Classical.byContradiction fun w => R3.b5 a w (hb a z)⟩) co.1⟩
        cases q : O3 a with
        | none => rfl
        | some j => exact absurd (hb a z) (R3.of a j q).2.1.1
theorem se_make0 {c : Str} {f : DF} {n : Nat} {t : TA} {m : MA} (h : SA K B W t m) : SE K B W (tMake (He.ga K c) (spN K f (n + 1)) [] E0 t) (mMake c n (noXf f) m) := by
  refine se_makeG (sp := spN K f (n + 1)) (E := fun _ => E0) (fun σ vs H Q hv p => ?_) h
  obtain ⟨F, O, as, S, io, hl, kd, R, p⟩ := p
  refine ⟨hv, F, O, as, S, io, hl, kd, R, ?_⟩
  unfold noXf at p
  cases q : f as with
  | ok r ios => rw [q] at p; exact p
  | ex x ios => rw [q] at p; exact False.elim p
  | bad => rw [q] at p; exact p
end
end Tw

namespace Tw
open PySem PySem.Spec PyProof.Rows L2
/-- a class's __init__, that may raise -/
structure MakX (P : Program) (w : World) (K : PySem.W.Frag) (mg : Str → Option Value) (base : Heap) (k : Nat) (c : Str) (sp : Sp) : Prop where
  gC : mg c = some (.ref (He.ga K c))
  ex : ∃ (f : Addr) (fd : FuncData) (ps : List Str), FnOk P w K mg base (L2.CX P w) k f fd ps sp ∧ Mk K (He.ga K c) f ∧ Binds K fd ps []
section
variable {P : Program} {w : World} {K : PySem.W.Frag} {mg : Str → Option Value} {base : Heap}
theorem makX_of {c : Str} {k : Nat} {sp : Sp} (g : mg c = some (.ref (He.ga K c))) (M : Mk K (He.ga K c) (He.ma K (He.ga K c) "__init__")) (m : MetX P w K mg base k c "__init__" sp) : MakX P w K mg base k c sp := by
  obtain ⟨C, f, fd, ps, F, hm, b⟩ := m
  have e : f = He.ma K (He.ga K c) "__init__" := by
    have h1 := hm.at_
    rw [M.init] at h1
    cases h1
    rfl
  exact ⟨g, f, fd, ps, F, by rw [e]; exact M, b⟩
end
section
variable {X : Cx} {W : WX} {k j : Nat} {c : Str} {sp : Sp} {p pos : Pos} {e : Expr} {es : List Expr} {t : TA}
/-- .. where it does not raise -/
theorem pe_makeX0 (M : MakX X.prog X.w X.K X.mg X.base k c sp) (hr : Room j X.A) (hk : k + 1 ≤ j) (hg : Gl X c) (ha : PA X (e :: es) t) (hdb : (c == ("__debug__" : Str)) = false := by decide)
    (he : starEach (e :: es) X.env = (false, eval e X.env) :: starEach es X.env := by rfl) (hpl : (backTo pos (starEach es X.env)).any (·.1) = false := by rfl) :
    PE X (.Call (.Name c p) (e :: es) [] pos) (tMake (He.ga X.K c) sp [] E0 t) := by
  obtain ⟨f, fd, ps, F, Mk', b⟩ := id M.ex
  exact pe_make Mk' F (hr.mono hk) hg M.gC b .nil passX ha hdb he hpl
end
end Tw

namespace Tw
open PySem PySem.Spec PyProof.Rows L2
/-! ### an instance that is called: o(..) -/
def tDun (KF : PySem.W.Frag) (c : Str) (ta : TE) (t : TA) : TA := fun σ H Q => ta σ H fun x H1 => ∃ a, x = .ref a ∧ t σ H1 fun vs H2 => ∃ dx fs, H2 a = some (.ins (He.ga KF c) dx fs) ∧ Q (x :: vs) H2
def mDun (c : Str) (ma : ME) (mm : MA) : MA := fun env te => (ma env te).bind fun a e => match obA e a with
  | some _ => (mm e (a :: te)).bind fun as e2 => (match obA e2 a with
    | some (c', _) => if c' = c then .ok (a :: as) e2 else .bad
    | none => .bad)
  | none => .bad
section
variable {K : KW} {B : Bs} {W : WX}
theorem sa_dun {c : Str} {ta : TE} {ma : ME} {t : TA} {mm : MA} (h1 : SE K B W ta ma) (h2 : SA K B W t mm) : SA K B W (tDun K c ta t) (mDun c ma mm) := by
  intro σ env ts te H Q R p0
  refine h1.thA R p0 fun a e p v H1 R1 => ?_
  cases q0 : obA e a with
  | none => simp only [q0] at p; exact False.elim p
  | some cf0 =>
  simp only [q0] at p
  have hv : ∃ x, v = .ref x := by
    obtain ⟨F, O, R1⟩ := R1
    obtain ⟨own, z⟩ := cell_ow R1 R1.tm.1 (obA_ow q0)
    obtain ⟨x, dx, us, rfl, _⟩ := (show XtO K F H1 own v (.ob _ _) from z)
    exact ⟨x, rfl⟩
  obtain ⟨x, rfl⟩ := hv
  refine ⟨x, rfl, ?_⟩
  refine h2 σ e _ _ H1 _ R1 ?_
  cases q2 : mm e (a :: te) with
  | bad => rw [q2] at p; exact p
  | ex x e' => rw [q2] at p; exact XPost.push p _ _
  | ok as e' =>
    rw [q2] at p
    intro vs H2 hl2 R2
    have p2 : PA' K B W σ ts te Q (match obA e' a with
      | some (c', _) => if c' = c then Rs.ok (a :: as) e' else .bad
      | none => .bad) := p
    cases q : obA e' a with
    | none => rw [q] at p2; exact False.elim p2
    | some cf =>
      obtain ⟨c', fs⟩ := cf
      rw [q] at p2
      dsimp only at p2
      by_cases ec : c' = c
      case neg => rw [if_neg ec] at p2; exact False.elim p2
      rw [if_pos ec] at p2
      subst ec
      have hob : ∃ dx us, H2 x = some (.ins (He.ga K c') dx us) := by
        obtain ⟨F, O, R3⟩ := Rel.popN (us := vs.reverse) (ue := as.reverse) R2 (by rw [List.length_reverse, List.length_reverse, hl2])
        obtain ⟨own, z⟩ := cell_ow R3 R3.tm.1 (obA_ow q)
        obtain ⟨x', dx, us, ex, _, _, hx, _, pr⟩ := (show XtO K F H2 own (.ref x) (.ob c' fs) from z)
        cases ex
        exact ⟨dx, us, hx⟩
      obtain ⟨dx, us, hx⟩ := hob
      refine ⟨dx, us, hx, ?_⟩
      refine p2 (.ref x :: vs) H2 (by rw [List.length_cons, List.length_cons, hl2]) ?_
      rw [List.reverse_cons, List.reverse_cons, List.append_assoc, List.append_assoc]
      exact R2
end
section
variable {prog : Program} {w : World} {M : Model} {A : Around} {E : Value → Shared → Prop} {s : Shared} {K : PySem.W.Frag} {a C dx f : Addr} {R : Result → Shared → Prop}
theorem ins_type {h : Heap} (ho : h.get? a = some (PySem.W.instObj C dx)) : PySem.W.Looks M h (typeOf (.ref a)) (.ref C) := (PySem.W.Looks.ld ho).andThen .now
end
section
variable {X : Cx} {W : WX} {k j : Nat} {cn : Str} {sp : Sp} {p pos : Pos} {x : Str} {e : Expr} {es : List Expr} {ta : TE} {t : TA}
theorem ins_obj {P : Program} {w : World} {H : Hp} {h : Heap} {a C dx : Addr} {fs : List (Str × V)} (hok : HOk P w H h) (e : H a = some (.ins C dx fs)) : h.get? a = some (PySem.W.instObj C dx) := by
  obtain ⟨mA, o, _⟩ := ins_get hok e
  exact o.obj
end
section
variable {P : Program} {w : World} {K : PySem.W.Frag} {mg : Str → Option Value} {base : Heap}
/-- a method with defaults, called with all its arguments -/
theorem metX_ofD {c m q : Str} {st : Stmt} {N ps : List Str} {k : Nat} {sp : Sp} {f : Addr} {dvs : List V} (C : Cls K (He.ga K c)) (hm : Meth K (He.ga K c) m f) (D : ∃ fd, FunD K m q (defArgs st) (defBody st) (defScope st) dvs [] f fd) (hd : dvs ≠ [])
    (hb : ∀ (T : Addr) (kV doc pm : Value) (an : Option Addr) (cdv ct : Value) (us its : List Value), us.length = ps.length → its.length = dvs.length →
      ∃ k, bindArgs (PySem.W.fnOf m q (defArgs st) (defBody st) (defScope st) (.ref T) kV doc pm an cdv ct) ⟨us, []⟩ = seqItems? (.ref T) >>= k ∧ k (some its.toArray) = pure (ps.zip (us ++ its.drop dvs.length)))
    (S : FnScope N ps (defScope st)) (len : ∀ vs H Q E, sp vs H Q E → vs.length = ps.length) {t : WX → TS}
    (body : ∀ (cdv : Value) (f : Addr) (A : Around) (outer : List PySem.Env) (s : Shared) (H : Hp) (E : XK), Room k (A.deeper (envOfC q (defScope st) s.heap.objs.size f cdv)) →
      Takes (cxOf (L2.CX P w) P w K mg base N q (defScope st) f cdv A outer s H E) (WE E) → PassesOwn (model P w) (cxOf (L2.CX P w) P w K mg base N q (defScope st) f cdv A outer s H E).A (cxOf (L2.CX P w) P w K mg base N q (defScope st) f cdv A outer s H E).env (cxOf (L2.CX P w) P w K mg base N q (defScope st) f cdv A outer s H E).xe →
      PSs (cxOf (L2.CX P w) P w K mg base N q (defScope st) f cdv A outer s H E) (defBody st) (t (WE E)))
    (pure_ : ∀ (vs : List V) (H : Hp) (Q : VK) (E : XK), sp vs H Q E → t (WE E) { nx := fun _ H' => Q .non H', rt := Q } (start N vs) H) : MetX P w K mg base (k + 1) c m sp := by
  obtain ⟨fd, F⟩ := D
  obtain ⟨ds, hv, b⟩ := F.binds1 ps.length dvs.length hd (by omega) hb
  rw [List.drop_length] at hv
  cases hv
  exact ⟨C, f, fd, ps, F.ok S len fun cdv A outer s H vs Q E hr h => ⟨t (WE E), body cdv f A outer s H E hr (takes_of rfl rfl rfl rfl) (passes_of rfl), pure_ vs H Q E h⟩, hm, b⟩
end
end Tw

namespace Tw
open PySem PySem.Spec PyProof.Rows L2
/-! ### properties of own classes -/
/-- the property object, its getter -/
def ppA (K : PySem.W.Frag) (c m : Str) : Addr := He.ma K (He.ga K c) m
def pgA (K : PySem.W.Frag) (c m : Str) : Addr := match PySem.W.recIn K (ppA K c m) "property" with
  | some (.ref g :: _) => g
  | _ => 0
def fnWA (K : PySem.W.Frag) (a : Addr) : He.FnW := match K.lookup a with
  | some ⟨_, _, .func fd, _⟩ => some (fd.name, fd.qualname, fd.params, fd.body, fd.scope, fd.globals, fd.closure, fd.builtins)
  | _ => none
structure PrD where
  c : Str
  m : Str
  qual : Str
  params : Arguments
  body : List Stmt
  scope : Scope
def PrD.val (d : PrD) : He.FnW := some (d.m, d.qual, d.params, .stmts d.body, d.scope, mainGlobals, [], builtinsNs)
def PrD.ok (K : PySem.W.Frag) (d : PrD) : Bool := PySem.W.keepIn K (.ref (pgA K d.c d.m)) && ((match K.lookup (pgA K d.c d.m) with
  | some ⟨_, _, .func fd, _⟩ => PySem.W.codeIn K fd.code d.qual && (He.dflB K fd.defaults [] && He.kwdB K fd.kwdefaults [])
  | _ => false) && (decide (PySem.W.findIn K (.ref (He.ga K d.c)) d.m = some (some (.ref (ppA K d.c d.m)))) && (decide (PySem.W.specialIn K (.ref (ppA K d.c d.m)) "__get__" = some (some (.builtin "property.__get__"))) && (decide (PySem.W.takesIn K (.ref (ppA K d.c d.m)) = some true) && (match PySem.W.recIn K (ppA K d.c d.m) "property" with
    | some (.ref _ :: _) => true
    | _ => false)))))
theorem PrD.funD {K : PySem.W.Frag} {d : PrD} (e : fnWA K (pgA K d.c d.m) = d.val) (c : d.ok K = true) : ∃ fd, FunD K d.m d.qual d.params d.body d.scope [] [] (pgA K d.c d.m) fd := by
  unfold PrD.ok at c
  simp only [Bool.and_eq_true] at c
  obtain ⟨kp, c2, _⟩ := c
  unfold fnWA at e
  cases q : K.lookup (pgA K d.c d.m) with
  | none =>
    rw [q] at c2
    cases c2
  | some o =>
    obtain ⟨oc, od, dt, osl⟩ := o
    rw [q] at c2 e
    cases dt with
    | func fd =>
      obtain ⟨n1, n2, n3, n4, n5, n6, n7, n8, n9, n10, n11, n12, n13, n14, n15⟩ := fd
      have e2 : (some (n1, n2, n3, n4, n5, n6, n7, n15) : He.FnW) = some (d.m, d.qual, d.params, .stmts d.body, d.scope, mainGlobals, [], builtinsNs) := e
      simp only [Option.some.injEq, Prod.mk.injEq] at e2
      obtain ⟨h1, h2, h3, h4, h5, h6, h7, h8⟩ := e2
      subst h1 h2 h3 h4 h5 h6 h7 h8
      have c3 : (PySem.W.codeIn K n13 d.qual && (He.dflB K n8 [] && He.kwdB K n9 [])) = true := c2
      simp only [Bool.and_eq_true] at c3
      obtain ⟨k1, k3, k4⟩ := c3
      exact ⟨_, ⟨oc, od, n8, n9, n10, n11, n12, n13, n14, osl, rfl, q, k1, He.dflB_ok k3, He.kwdB_ok k4⟩, kp⟩
    | _ => cases c2
theorem PrD.prop {K : PySem.W.Frag} {d : PrD} (c : d.ok K = true) : PropOf K (He.ga K d.c) d.m (ppA K d.c d.m) (pgA K d.c d.m) := by
  unfold PrD.ok at c
  simp only [Bool.and_eq_true, decide_eq_true_eq] at c
  obtain ⟨_, _, h1, h2, h3, h4⟩ := c
  refine ⟨h1, h2, h3, ?_⟩
  unfold pgA
  cases q : PySem.W.recIn K (ppA K d.c d.m) "property" with
  | none => rw [q] at h4; cases h4
  | some l =>
    rw [q] at h4
    cases l with
    | nil => cases h4
    | cons x l =>
      cases x with
      | ref g => exact ⟨l, rfl⟩
      | _ => cases h4
/-! ### the head's facts, with properties -/
abbrev AlP : Type := AlX × (Bool × List He.FnW)
def obsP (chk : PySem.W.Frag → Bool) (fa : List He.Fa) (fn : List He.DefD) (ps : List PrD) (K : PySem.W.Frag) : AlP := (obsX chk fa fn K, (ps.all fun d => d.ok K, ps.map fun d => fnWA K (pgA K d.c d.m)))
def valP (fn : List He.DefD) (ps : List PrD) : AlP := (valX fn, (true, ps.map PrD.val))
def SaysP (chk : PySem.W.Frag → Bool) (fa : List He.Fa) (fn : List He.DefD) (ps : List PrD) (K : PySem.W.Frag) : Prop := obsP chk fa fn ps K = valP fn ps
def obsPG (n : Nat) (chk : PySem.W.Frag → Bool) (fa : List He.Fa) (fn : List He.DefD) (ps : List PrD) (g : Addr → Option Obj) : AlP := obsP chk fa fn ps (He.frG g (He.asD g n))
def hookP (n : Nat) (chk : PySem.W.Frag → Bool) (fa : List He.Fa) (fn : List He.DefD) (ps : List PrD) : PySem.W.Hook where
  α := AlP
  obs := fun s => obsPG n chk fa fn ps s.heap.get?
  val := fun _ => valP fn ps
  says := fun _ h => ∃ K : PySem.W.Frag, K.In h ∧ SaysP chk fa fn ps K
  of := fun _ _ e => ⟨_, He.frG_in, e⟩
  keeps := fun _ _ _ ⟨K, hK, c⟩ k => ⟨K, PySem.W.Frag.In.keeps hK k, c⟩
theorem obsPG_eq {n : Nat} {chk : PySem.W.Frag → Bool} {fa : List He.Fa} {fn : List He.DefD} {ps : List PrD} {g : Addr → Option Obj} {s : Shared} (h : ∀ a, g a = s.heap.get? a) : obsPG n chk fa fn ps g = (hookP n chk fa fn ps).obs s := by
  have e : g = s.heap.get? := funext h
  rw [e] <;> rfl
section
variable {chk : PySem.W.Frag → Bool} {fa : List He.Fa} {fn : List He.DefD} {ps : List PrD} {K : PySem.W.Frag}
theorem SaysP.x (c : SaysP chk fa fn ps K) : SaysX chk fa fn K := congrArg (fun z : AlP => z.1) c
theorem SaysP.d (c : SaysP chk fa fn ps K) : He.SaysD fa fn K := c.x.d
theorem SaysP.test (c : SaysP chk fa fn ps K) : chk K = true := c.x.test
theorem SaysP.prop (c : SaysP chk fa fn ps K) (i : Nat) {d : PrD} (h : ps[i]? = some d) : PropOf K (He.ga K d.c) d.m (ppA K d.c d.m) (pgA K d.c d.m) ∧ ∃ fd, FunD K d.m d.qual d.params d.body d.scope [] [] (pgA K d.c d.m) fd := by
  have a : (ps.all fun d => d.ok K) = true := congrArg (fun z : AlP => z.2.1) c
  have b : ps.map (fun d => fnWA K (pgA K d.c d.m)) = ps.map PrD.val := congrArg (fun z : AlP => z.2.2) c
  have ok := List.all_eq_true.mp a d (List.mem_of_getElem? h)
  have e : (ps.map (fun d => fnWA K (pgA K d.c d.m)))[i]? = (ps.map PrD.val)[i]? := by rw [b]
  rw [List.getElem?_map, List.getElem?_map, h] at e
  exact ⟨PrD.prop ok, PrD.funD (Option.some.inj e) ok⟩
end
/-! ### o.f, a property that does not raise -/
structure PrpX (P : Program) (w : World) (K : PySem.W.Frag) (mg : Str → Option Value) (base : Heap) (k : Nat) (c m : Str) (sp : Sp) : Prop where
  cls : Cls K (He.ga K c)
  ex : ∃ (p f : Addr) (fd : FuncData) (ps : List Str), FnOk P w K mg base (L2.CX P w) k f fd ps sp ∧ PropOf K (He.ga K c) m p f ∧ Binds K fd ps []
section
variable {P : Program} {w : World} {K : PySem.W.Frag} {mg : Str → Option Value} {base : Heap}
theorem prpX_of {c m q : Str} {st : Stmt} {N ps : List Str} {k : Nat} {sp : Sp} {p f : Addr} (C : Cls K (He.ga K c)) (hm : PropOf K (He.ga K c) m p f) (D : ∃ fd, FunD K m q (defArgs st) (defBody st) (defScope st) [] [] f fd)
    (hb : ∀ (kV doc pm : Value) (an : Option Addr) (cdv ct : Value) (us : List Value), us.length = ps.length → bindArgs (PySem.W.fnOf m q (defArgs st) (defBody st) (defScope st) .none kV doc pm an cdv ct) ⟨us, []⟩ = pure (ps.zip us))
    (S : FnScope N ps (defScope st)) (len : ∀ vs H Q E, sp vs H Q E → vs.length = ps.length) {t : WX → TS}
    (body : ∀ (cdv : Value) (f : Addr) (A : Around) (outer : List PySem.Env) (s : Shared) (H : Hp) (E : XK), Room k (A.deeper (envOfC q (defScope st) s.heap.objs.size f cdv)) →
      Takes (cxOf (L2.CX P w) P w K mg base N q (defScope st) f cdv A outer s H E) (WE E) → PassesOwn (model P w) (cxOf (L2.CX P w) P w K mg base N q (defScope st) f cdv A outer s H E).A (cxOf (L2.CX P w) P w K mg base N q (defScope st) f cdv A outer s H E).env (cxOf (L2.CX P w) P w K mg base N q (defScope st) f cdv A outer s H E).xe →
      PSs (cxOf (L2.CX P w) P w K mg base N q (defScope st) f cdv A outer s H E) (defBody st) (t (WE E)))
    (pure_ : ∀ (vs : List V) (H : Hp) (Q : VK) (E : XK), sp vs H Q E → t (WE E) { nx := fun _ H' => Q .non H', rt := Q } (start N vs) H) : PrpX P w K mg base (k + 1) c m sp := by
  obtain ⟨fd, F⟩ := D
  exact ⟨C, p, f, fd, ps, F.ok S len fun cdv A outer s H vs Q E hr h => ⟨t (WE E), body cdv f A outer s H E hr (takes_of rfl rfl rfl rfl) (passes_of rfl), pure_ vs H Q E h⟩, hm, F.bindsN hb⟩
end
def tPrp (KF : PySem.W.Frag) (c : Str) (ta : TE) : TA := fun σ H Q => ta σ H fun x H1 => ∃ a dx fs, x = .ref a ∧ H1 a = some (.ins (He.ga KF c) dx fs) ∧ Q [.ref a] H1
def mPrp (c : Str) (ma : ME) : MA := fun env te => (ma env te).bind fun a e => match obA e a with
  | some (c', _) => if c' = c then .ok [a] e else .bad
  | none => .bad
section
variable {K : KW} {B : Bs} {W : WX}
theorem sa_prp {c : Str} {ta : TE} {ma : ME} (h1 : SE K B W ta ma) : SA K B W (tPrp K c ta) (mPrp c ma) := by
  intro σ env ts te H Q R p0
  refine h1.thA R p0 fun a e p v H1 R1 => ?_
  cases q : obA e a with
  | none => simp only [q] at p; exact False.elim p
  | some cf =>
    obtain ⟨c', fs⟩ := cf
    simp only [q] at p
    by_cases ec : c' = c
    case neg => rw [if_neg ec] at p; exact False.elim p
    rw [if_pos ec] at p
    subst ec
    have hob : ∃ x dx us, v = .ref x ∧ H1 x = some (.ins (He.ga K c') dx us) := by
      obtain ⟨F, O, R1⟩ := R1
      obtain ⟨own, z⟩ := cell_ow R1 R1.tm.1 (obA_ow q)
      obtain ⟨x, dx, us, rfl, _, _, hx, _, pr⟩ := (show XtO K F H1 own v (.ob c' fs) from z)
      exact ⟨x, dx, us, rfl, hx⟩
    obtain ⟨x, dx, us, rfl, hx⟩ := hob
    exact ⟨x, dx, us, rfl, hx, p [.ref x] H1 rfl R1⟩
end
section
variable {X : Cx} {k j : Nat} {cn m : Str} {sp : Sp} {pos : Pos} {o : Expr} {ta : TE}
theorem pe_prp0 (c : PrpX X.prog X.w X.K X.mg X.base k cn m sp) (hr : Room j X.A) (hk : k + 1 ≤ j) (he : PE X o ta)
    (hab : attributeBase o m X.env (eval o X.env) = eval o X.env := by rfl) : PE X (.Attribute o m pos) (tCall sp [] E0 (tPrp X.K cn ta)) := by
  obtain ⟨p, f, fd, ps, F, hp, b⟩ := c.ex
  refine ⟨fun pins s σ H Q I h => ?_⟩
  exact (pe_prop (dvs := []) (ds := []) (E := E0) he c.cls hp F ((hr.mono hk)) b .nil passX0 hab).run pins s σ H Q I h
end
end Tw

namespace Tw
open PySem PySem.Spec PyProof.Rows L2
/-! ### len(o), o an instance of an own class -/
section
variable {X : Cx} {k j : Nat} {cn : Str} {sp : Sp}
theorem env_in1 {P : Program} {w : World} {K : PySem.W.Frag} {mg : Str → Option Value} {base : Heap} {A : Around} {outer : List PySem.Env} {s : Shared} {H : Hp} (e : Env0 P w K mg base A outer s H) : Env0 P w K mg base A.in1 outer s H :=
  ⟨e.frames, e.mod, e.bs, e.bsz, e.funs, e.frf, e.hok, e.bare⟩
theorem special_ins {prog : Program} {w : World} {A : Around} {E : Value → Shared → Prop} {s : Shared} {K : PySem.W.Frag} {a C dx f : Addr} {name : Str} {args : List Value} {Q : Option Value → Shared → Prop} (ho : s.heap.get? a = some (PySem.W.instObj C dx)) (Xk : K.In s.heap) (hm : Meth K C name f)
    (h : wpAny (model prog w) A (call (.ref f) (.ref a :: args)) (fun v => Q (some v)) E s) : wpAny (model prog w) A (callSpecial? (.ref a) name args) Q E s := by
  unfold callSpecial?
  have L : PySem.W.Looks (model prog w) s.heap (specialOf (.ref a) name) (some (.ref f)) := (ins_type ho).andThen (PySem.W.looks_findIn Xk hm.at_)
  refine wpAny_bind (L.here ?_)
  dsimp only
  refine wpAny_holding (wpAny_bind ((PySem.W.bind_fn Xk (.ref a) (beq_iff_eq.mp hm.fn)).here ?_))
  dsimp only
  exact wpAny_bind (wpAny_mono h (fun v s' h' => wpAny_pure h') fun _ _ h' => h')
def rLenO (K : PySem.W.Frag) (c : Str) (sp : Sp) : List V → Hp → VK → Prop := fun xs H Q => ∃ a dx fs, xs = [.ref a] ∧ H a = some (.ins (He.ga K c) dx fs) ∧ sp [.ref a] H (fun v H' => ∃ n : Int, v = .int n ∧ 0 ≤ n ∧ n < 2 ^ 62 ∧ Q (.int n) H') E0
theorem call_lenO (c : MetX X.prog X.w X.K X.mg X.base k cn "__len__" sp) (hr : Room j X.A) (hk : k + 1 ≤ j) : CallR X (.builtin "len") (rLenO X.K cn sp) := by
  obtain ⟨f, fd, ps, F, hm, b⟩ := c.ex
  intro pins s σ H xs us Q I r h
  obtain ⟨a, dx, fs, rfl, ha, q⟩ := h
  obtain ⟨u, rfl, ru⟩ := vals1 r
  obtain rfl : u = Value.ref a := ru
  have ob := ins_obj I.hok ha
  refine Calls.call_function_entry kind_len plain_len entry_len (args_len1 _) ?_
  unfold Builtin.«len»
  refine wpAny_bind (m := oneArg "len" _) (wpAny_pure ?_)
  refine wpAny_bind (m := callSpecial? (.ref a) (Str.ofString "__len__")) (special_ins (name := Str.ofString "__len__") ob I.kIn hm ?_)
  have r2 : Vals ([V.ref a] ++ []) ([Value.ref a] ++ []) := .cons rfl .nil
  have hl : ([Value.ref a] ++ []).length = ps.length := by rw [← r2.length]; exact F.len _ _ _ _ q
  have hr1 : Room k X.A.in1 := (hr.mono hk).in1
  refine wpAny_call (codeAny_mono (F.run X.A.in1 X.stack s H ⟨[Value.ref a], []⟩ _ _ _ _ hr1 (env_in1 I.env0) (b s [Value.ref a] I.kIn hl) r2 q) fun r s' hq => ?_)
  match r, hq with
  | .error e', hq => exact (passX pins σ H s e' s' I hq)
  | .ok (.ret u), hq =>
    obtain ⟨z, H', I', rz, n, rfl, n0, n1, q'⟩ := I.after hq
    obtain ⟨t, rfl⟩ : ∃ t, u = .int n t := rz
    refine wpAny_bind (wpAny_holding (wpAny_pure ?_))
    refine wpAny_bind (wpAny_letGo ?_)
    show wpAny _ _ (if n < 0 then _ else _) _ _ _
    rw [if_neg (by omega)]
    show wpAny _ _ (if n ≥ 2 ^ 63 then _ else _) _ _ _
    rw [if_neg (by omega)]
    exact wpAny_bind (wpAny_mkInt (wpAny_pure ⟨_, rfl, .int n, H', I'.tok _, ⟨_, rfl⟩, q'⟩))
end
end Tw

namespace Tw
open PySem PySem.Spec PyProof.Rows L2
/-! ### x in o, o an instance of an own class -/
section
variable {X : Cx} {k j : Nat} {cn : Str} {sp : Sp}
def rInO (K : PySem.W.Frag) (c : Str) (sp : Sp) : R2 := fun x y H Q => ∃ a dx fs, y = .ref a ∧ H a = some (.ins (He.ga K c) dx fs) ∧ sp [.ref a, x] H (fun v H' => ∃ b, v = .bl b ∧ Q (.bl b) H') E0
theorem op_inO (c : MetX X.prog X.w X.K X.mg X.base k cn "__contains__" sp) (hr : Room j X.A) (hk : k ≤ j) : OpR X (compareOp .In) (rInO X.K cn sp) := by
  obtain ⟨f, fd, ps, F, hm, b⟩ := c.ex
  intro pins s σ H x y v u Q I rx ry h
  obtain ⟨a, dx, fs, rfl, ha, q⟩ := h
  obtain rfl : u = Value.ref a := ry
  obtain ⟨mA, J, _⟩ := ins_get I.hok ha
  obtain ⟨od, J, _⟩ := J.look
  obtain ⟨m, hF⟩ := I.fr
  refine PySem.W.in_K hF I.ok.mod.kin J hm.at_ hm.fn ?_
  have r2 : Vals ([V.ref a, x] ++ []) ([Value.ref a, v] ++ []) := .cons rfl (.cons rx .nil)
  have hl : ([Value.ref a, v] ++ []).length = ps.length := by rw [← r2.length]; exact F.len _ _ _ _ q
  refine wpAny_call (codeAny_mono (F.run X.A X.stack s H ⟨[Value.ref a, v], []⟩ _ _ _ _ (hr.mono hk) I.env0 (b s [Value.ref a, v] I.kIn hl) r2 q) fun r s' hq => ?_)
  match r, hq with
  | .error e', hq => exact (passX pins σ H s e' s' I hq)
  | .ok (.ret w), hq =>
    obtain ⟨z, H', I', rz, b, rfl, q'⟩ := I.after hq
    obtain rfl : w = .bool b := rz
    exact wpAny_pure ⟨.bl b, H', I', rfl, q'⟩
end
/-! ### their readings -/
def mBo (m : ME) : ME := fun env te => (m env te).bind fun a e => match a with
  | .d (.bool b) => .ok (.d (.bool b)) e
  | _ => .bad
def tBo (t : TE) : TE := fun σ H Q => t σ H fun v H' => ∃ b, v = .bl b ∧ Q (.bl b) H'
def mLo (m : ME) : ME := fun env te => (m env te).bind fun a e => match a with
  | .d (.int n) => if 0 ≤ n ∧ n < 2 ^ 62 then .ok (.d (.int n)) e else .bad
  | _ => .bad
def tLo (t : TE) : TE := fun σ H Q => t σ H fun v H' => ∃ n : Int, v = .int n ∧ 0 ≤ n ∧ n < 2 ^ 62 ∧ Q (.int n) H'
section
variable {K : KW} {B : Bs} {W : WX}
theorem se_bo {t : TE} {m : ME} (h : SE K B W t m) : SE K B W (tBo t) (mBo m) := by
  intro σ env ts te H Q R p
  refine h.thE R p fun a e p v H1 R1 => ?_
  cases a with
  | d x =>
    cases x with
    | bool b =>
      have R1c := R1
      obtain ⟨F, O, R1'⟩ := R1c
      have hv : v = .bl b := by
        have z : Dn K F v (.bool b) := R1'.tm.1
        cases z
        rfl
      subst hv
      exact ⟨b, rfl, p (.bl b) H1 R1⟩
    | _ => exact False.elim p
  | _ => exact False.elim p
theorem se_lo {t : TE} {m : ME} (h : SE K B W t m) : SE K B W (tLo t) (mLo m) := by
  intro σ env ts te H Q R p
  refine h.thE R p fun a e p v H1 R1 => ?_
  cases a with
  | d x =>
    cases x with
    | int n =>
      have R1c := R1
      obtain ⟨F, O, R1'⟩ := R1c
      have hv : v = .int n := by
        have z : Dn K F v (.int n) := R1'.tm.1
        cases z
        rfl
      subst hv
      dsimp only at p
      by_cases hn : 0 ≤ n ∧ n < 2 ^ 62
      · rw [if_pos hn] at p
        exact ⟨n, rfl, hn.1, hn.2, p (.int n) H1 R1⟩
      · rw [if_neg hn] at p
        exact False.elim p
    | _ => exact False.elim p
  | _ => exact False.elim p
theorem SE.imp {t t' : TE} {m : ME} (h : SE K B W t' m) (i : ∀ σ H Q, t' σ H Q → t σ H Q) : SE K B W t m := fun σ env ts te H Q R p => i _ _ _ (h σ env ts te H Q R p)
/-- x in o, both variables -/
theorem se_inO {c : Str} {f : DF} {i j : Nat} : SE K B W (tOp (rInO K c (spN K f 2)) (tVar i) (tVar j)) (mBo (mCall (noXf f) [true, false] (mDun c (mVar j) (mCons (mVar i) mNil)))) :=
  (se_bo (se_call0 (k := 2) rfl (sa_dun (c := c) (se_var j) (sa_cons (se_var i) sa_nil)))).imp fun σ H Q h => by
    have h : tVar j σ H fun y H1 => ∃ a, y = .ref a ∧ tCons (tVar i) tNil σ H1 fun vs H2 => ∃ dx fs, H2 a = some (.ins (He.ga K c) dx fs) ∧ spN K f 2 ((y :: vs) ++ []) H2 (fun v H' => ∃ b, v = .bl b ∧ Q (.bl b) H') E0 := h
    obtain ⟨y, hy, a, rfl, x, hx, dx, fs, ha, h⟩ := h
    exact ⟨x, hx, .ref a, hy, a, dx, fs, rfl, ha, h⟩
/-- len(o), o a variable -/
theorem se_lenO {c : Str} {f : DF} {i : Nat} : SE K B W (tCB (rLenO K c (spN K f 1)) (tCons (tVar i) tNil)) (mLo (mCall (noXf f) [true] (mPrp c (mVar i)))) :=
  (se_lo (se_call0 (k := 1) rfl (sa_prp (c := c) (se_var i)))).imp fun σ H Q h => by
    have h : tVar i σ H fun x H1 => ∃ a dx fs, x = .ref a ∧ H1 a = some (.ins (He.ga K c) dx fs) ∧ spN K f 1 ([.ref a] ++ []) H1 (fun v H' => ∃ n : Int, v = .int n ∧ 0 ≤ n ∧ n < 2 ^ 62 ∧ Q (.int n) H') E0 := h
    obtain ⟨x, hx, a, dx, fs, rfl, ha, h⟩ := h
    exact ⟨.ref a, hx, a, dx, fs, rfl, ha, h⟩
end
end Tw

namespace Tw
open PySem PySem.Spec PyProof.Rows L2
/-! ### f(new object, ..): the object in a free slot for the while of the call -/
def mLet (i : Nat) (m1 m2 : ME) : ME := fun env te => (m1 env te).bind fun a e => match gN i a e te with
  | some e1 => (m2 e1 te).noX.bind fun r e2 => if wipeOk e2 (r :: te) [i] = true then .ok r (wipeE e2 [i]) else .bad
  | none => .bad
def InsE (i : Nat) (t : TE) : Prop := ∀ (σ : L2.St) (x : V), t (σ.set i (some x)) = t σ
def InsA (i : Nat) (t : TA) : Prop := ∀ (σ : L2.St) (x : V), t (σ.set i (some x)) = t σ
theorem insE_var {i k : Nat} (h : i ≠ k) : InsE i (tVar k) := fun σ x => by
  funext H Q
  show (∃ v, (σ.set i (some x))[k]? = some (some v) ∧ Q v H) = ∃ v, σ[k]? = some (some v) ∧ Q v H
  rw [List.getElem?_set_ne h]
theorem insA_nil {i : Nat} : InsA i tNil := fun _ _ => rfl
theorem insA_cons {i : Nat} {t : TE} {ts : TA} (h : InsE i t) (hs : InsA i ts) : InsA i (tCons t ts) := fun σ x => by
  funext H Q
  show (t (σ.set i (some x)) H fun v H1 => ts (σ.set i (some x)) H1 fun vs H2 => Q (v :: vs) H2) = _
  rw [h, hs]
  rfl
theorem insE_tup {i : Nat} {t : TA} (h : InsA i t) : InsE i (tTupF t) := fun σ x => by
  funext H Q
  unfold tTupF
  rw [h]
section
variable {K : KW} {B : Bs} {W : WX}
theorem se_let {i : Nat} {sp : Sp} {t1 : TE} {m1 m2 : ME} {t : TA} (h1 : SE K B W t1 m1) (h2 : SE K B W (tCall sp [] E0 (tCons (tVar i) t)) m2) (hi : InsA i t) : SE K B W (tCall sp [] E0 (tCons t1 t)) (mLet i m1 m2) := by
  intro σ env ts te H Q R p
  show t1 σ H fun x H1 => t σ H1 fun vs H2 => sp ((x :: vs) ++ []) H2 Q E0
  refine h1.thE R p fun a e p v H1 R1 => ?_
  cases q : gN i a e te with
  | none => rw [q] at p; exact False.elim p
  | some e1 =>
    rw [q] at p
    dsimp only at p
    have R2 := rel_set R1 q
    have z : tCall sp [] E0 (tCons (tVar i) t) (σ.set i (some v)) H1 Q := by
      refine h2 _ _ _ _ _ _ R2 ?_
      cases qm : m2 e1 te with
      | bad => rw [qm] at p; exact False.elim p
      | ex x e2 => rw [qm] at p; exact False.elim p
      | ok r e2 =>
        rw [qm] at p
        simp only [Rs.noX_ok] at p
        intro u H2 R3
        have p2 : PE' K B W σ ts te Q (if wipeOk e2 (r :: te) [i] = true then .ok r (wipeE e2 [i]) else .bad) := p
        by_cases hw : wipeOk e2 (r :: te) [i] = true
        · rw [if_pos hw] at p2
          refine p2 u H2 ?_
          have R4 := rel_wipe R3 hw
          rw [wipe_set List.mem_cons_self] at R4
          exact rel_unwipe R4
        · rw [if_neg hw] at p2
          exact False.elim p2
    obtain ⟨w, hw, z⟩ := (show ∃ w, (σ.set i (some v))[i]? = some (some w) ∧ t (σ.set i (some v)) H1 fun vs H2 => sp ((w :: vs) ++ []) H2 Q E0 from z)
    have ew : w = v := by
      rw [List.getElem?_set] at hw
      rw [if_pos rfl] at hw
      split at hw
      · cases hw; rfl
      · cases hw
    subst ew
    rw [hi] at z
    exact z
end
end Tw

namespace Tw
open PySem PySem.Spec PyProof.Rows L2
/-! ### defs with one keyword-only parameter whose default is the empty tuple -/
def emT (K : PySem.W.Frag) (a : Addr) : Bool := match K.lookup a with
  | some ⟨.type c, none, .seq its _, _⟩ => decide (c = "tuple") && its.toList.isEmpty
  | _ => false
theorem emT_ok {K : PySem.W.Frag} {a : Addr} (h : emT K a = true) (H : Hp) : TupN K H a [] := by
  unfold emT at h
  cases q : K.lookup a with
  | none => rw [q] at h; cases h
  | some o =>
    rw [q] at h
    split at h
    · rename_i c its n sl e
      cases e
      rw [Bool.and_eq_true] at h
      have hi : its.toList = [] := List.isEmpty_iff.mp h.2
      refine .inr ⟨_, its, n, q, by rw [of_decide_eq_true h.1], rfl, rfl, ?_, by rw [hi]; exact .nil⟩
      rw [← Array.length_toList, hi]
      exact Nat.zero_le _
    · cases h
section
variable {K : KW} {B : Bs} {W : WX}
theorem se_dft {a : Addr} (h : emT K a = true) : SE K B W (tC (.ref a)) (mC (.tuple [])) := by
  intro σ env ts te H Q R p
  obtain ⟨F, O, R⟩ := R
  exact p _ H (R.pushD (.tup (emT_ok h F) .nil))
end
section
variable {P : Program} {w : World} {K : PySem.W.Frag} {mg : Str → Option Value} {base : Heap}
end
section
variable {X : Cx} {k j n : Nat} {x y : Str} {sp : Sp} {T : Addr} {p pos : Pos} {e e2 e3 : Expr} {es : List Expr} {t : TA} {te te2 te3 : TE}
end
end Tw

namespace Tw
open PySem PySem.Spec PyProof.Rows L2
/-! ### a method with defaults -/
structure MetD (P : Program) (w : World) (K : PySem.W.Frag) (mg : Str → Option Value) (base : Heap) (k : Nat) (c m : Str) (sp : Sp) (dvs : List V) : Prop where
  met : MetX P w K mg base k c m sp
  dfl : ∃ (f : Addr) (fd : FuncData) (ps : List Str) (ds : List Value), FnOk P w K mg base (L2.CX P w) k f fd ps sp ∧ Meth K (He.ga K c) m f ∧ Binds K fd ps ds ∧ Vals dvs ds
section
variable {P : Program} {w : World} {K : PySem.W.Frag} {mg : Str → Option Value} {base : Heap}
theorem metD_of {c m q : Str} {st : Stmt} {N ps : List Str} {k n : Nat} {sp : Sp} {f : Addr} {dvs : List V} (C : Cls K (He.ga K c)) (hm : Meth K (He.ga K c) m f) (D : ∃ fd, FunD K m q (defArgs st) (defBody st) (defScope st) dvs [] f fd) (hd : dvs ≠ []) (hn : n + dvs.length = ps.length)
    (hb : ∀ (T : Addr) (kV doc pm : Value) (an : Option Addr) (cdv ct : Value) (us its : List Value), us.length = ps.length → its.length = dvs.length →
      ∃ k, bindArgs (PySem.W.fnOf m q (defArgs st) (defBody st) (defScope st) (.ref T) kV doc pm an cdv ct) ⟨us, []⟩ = seqItems? (.ref T) >>= k ∧ k (some its.toArray) = pure (ps.zip (us ++ its.drop dvs.length)))
    (hb0 : ∀ (T : Addr) (kV doc pm : Value) (an : Option Addr) (cdv ct : Value) (us its : List Value), us.length = n → its.length = dvs.length →
      ∃ k, bindArgs (PySem.W.fnOf m q (defArgs st) (defBody st) (defScope st) (.ref T) kV doc pm an cdv ct) ⟨us, []⟩ = seqItems? (.ref T) >>= k ∧ k (some its.toArray) = pure (ps.zip (us ++ its.drop 0)))
    (S : FnScope N ps (defScope st)) (len : ∀ vs H Q E, sp vs H Q E → vs.length = ps.length) {t : WX → TS}
    (body : ∀ (cdv : Value) (f : Addr) (A : Around) (outer : List PySem.Env) (s : Shared) (H : Hp) (E : XK), Room k (A.deeper (envOfC q (defScope st) s.heap.objs.size f cdv)) →
      Takes (cxOf (L2.CX P w) P w K mg base N q (defScope st) f cdv A outer s H E) (WE E) → PassesOwn (model P w) (cxOf (L2.CX P w) P w K mg base N q (defScope st) f cdv A outer s H E).A (cxOf (L2.CX P w) P w K mg base N q (defScope st) f cdv A outer s H E).env (cxOf (L2.CX P w) P w K mg base N q (defScope st) f cdv A outer s H E).xe →
      PSs (cxOf (L2.CX P w) P w K mg base N q (defScope st) f cdv A outer s H E) (defBody st) (t (WE E)))
    (pure_ : ∀ (vs : List V) (H : Hp) (Q : VK) (E : XK), sp vs H Q E → t (WE E) { nx := fun _ H' => Q .non H', rt := Q } (start N vs) H) : MetD P w K mg base (k + 1) c m sp dvs := by
  refine ⟨metX_ofD C hm D hd hb S len body pure_, ?_⟩
  obtain ⟨fd, F⟩ := D
  obtain ⟨ds, hv, b⟩ := F.binds1 n 0 hd (by omega) hb0
  exact ⟨f, fd, ps, ds, F.ok S len fun cdv A outer s H vs Q E hr h => ⟨t (WE E), body cdv f A outer s H E hr (takes_of rfl rfl rfl rfl) (passes_of rfl), pure_ vs H Q E h⟩, hm, b, hv⟩
end
section
variable {X : Cx} {k j : Nat} {cn : Str} {sp : Sp} {p pos : Pos} {a : Addr}
/-- C() -/
theorem pe_makeD0 (c : MetD X.prog X.w X.K X.mg X.base k cn "__init__" sp [.ref a]) (g : X.mg cn = some (.ref (He.ga X.K cn))) (M : Mk X.K (He.ga X.K cn) (He.ma X.K (He.ga X.K cn) "__init__")) (hr : Room j X.A) (hk : k + 1 ≤ j) (hg : Gl X cn) (hdb : (cn == ("__debug__" : Str)) = false := by decide) :
    PE X (.Call (.Name cn p) [] [] pos) (tMake (He.ga X.K cn) sp [] E0 (tCons (tC (.ref a)) tNil)) := by
  obtain ⟨f, fd, ps, ds, F, hm, b, hv⟩ := c.dfl
  have e : f = He.ma X.K (He.ga X.K cn) "__init__" := by
    have h1 := hm.at_
    rw [M.init] at h1
    cases h1
    rfl
  subst e
  exact pe_make0 M F (hr.mono hk) hg g b hv passX hdb
end
section
variable {K : KW} {B : Bs} {W : WX}
theorem se_makeD0 {c : Str} {f : DF} {a : Addr} (h : emT K a = true) : SE K B W (tMake (He.ga K c) (spN K f 2) [] E0 (tCons (tC (.ref a)) tNil)) (mMake c 1 (noXf f) (mCons (mC (.tuple [])) mNil)) := se_make0 (sa_cons (se_dft h) sa_nil)
/-! ### isinstance(o, C) -/
def mIsO (tb : List (Str × Bool)) (m : ME) : ME := fun env te => (m env te).bind fun a e => match obA e a with
  | some (c, _) => (match tb.lookup c with
    | some b => .ok (.d (.bool b)) e
    | none => .bad)
  | none => .bad
structure IsO (K : PySem.W.Frag) (c : Str) (D : Addr) (b : Bool) : Prop where
  cls : Cls K (He.ga K c)
  own : PySem.W.findIn K (.ref (He.ga K c)) "__class__" = some (some (.builtin "object.__class__"))
  get : PySem.W.specialIn K (.builtin "object.__class__") "__get__" = some (some (.builtin "getset_descriptor.__get__"))
  tak : PySem.W.takesIn K (.builtin "object.__class__") = some true
  mro : PySem.W.mroIn K (He.ga K c) (.type "object") = some true
  kit : PySem.W.kitOne K (.ref (He.ga K c)) (.ref D) = some b
theorem se_isO {tb : List (Str × Bool)} {D : Addr} {t : TE} {m : ME} (h : SE K B W t m) (hc : ∀ c b, tb.lookup c = some b → IsO K c D b) : SE K B W (tCB (rIsi K) (tCons t (tCons (tC (.ref D)) tNil))) (mIsO tb m) := by
  intro σ env ts te H Q R p
  show t σ H fun x H1 => rIsi K [x, .ref D] H1 Q
  refine h.thE R p fun a e p v H1 R1 => ?_
  cases q : obA e a with
  | none => simp only [q] at p; exact False.elim p
  | some cf =>
    obtain ⟨c, fs⟩ := cf
    simp only [q] at p
    cases l : tb.lookup c with
    | none => simp only [l] at p; exact False.elim p
    | some b =>
      simp only [l] at p
      have I := hc c b l
      obtain ⟨F, O, R1⟩ := R1
      obtain ⟨own, z⟩ := cell_ow R1 R1.tm.1 (obA_ow q)
      obtain ⟨x, dx, us, rfl, _, _, hx, _, pr⟩ := (show XtO K F H1 own v (.ob c fs) from z)
      exact ⟨.ref x, .ref D, .ref (He.ga K c), .ref D, b, rfl, .own D, .base (.ins hx I.cls I.own I.get I.tak I.mro), I.kit, p (.bl b) H1 (RelF.pushD (RelF.pop R1) (.bl b))⟩
theorem is1 {c : Str} {D : Addr} {b : Bool} (h : IsO K c D b) : ∀ c' b', List.lookup c' [(c, b)] = some b' → IsO K c' D b' := fun c' b' l => by
  rw [List.lookup_cons] at l
  split at l
  · rename_i e
    cases l
    rw [beq_iff_eq.mp e]
    exact h
  · cases l
end
def isoB (K : PySem.W.Frag) (c : Str) (D : Addr) (b : Bool) : Bool := decide (PySem.W.findIn K (.ref (He.ga K c)) "__class__" = some (some (.builtin "object.__class__"))) && (decide (PySem.W.specialIn K (.builtin "object.__class__") "__get__" = some (some (.builtin "getset_descriptor.__get__"))) && (decide (PySem.W.takesIn K (.builtin "object.__class__") = some true) && (decide (PySem.W.mroIn K (He.ga K c) (.type "object") = some true) && decide (PySem.W.kitOne K (.ref (He.ga K c)) (.ref D) = some b))))
theorem isoB_ok {K : PySem.W.Frag} {c : Str} {D : Addr} {b : Bool} (C : Cls K (He.ga K c)) (h : isoB K c D b = true) : IsO K c D b := by
  unfold isoB at h
  simp only [Bool.and_eq_true, decide_eq_true_eq] at h
  exact ⟨C, h.1, h.2.1, h.2.2.1, h.2.2.2.1, h.2.2.2.2⟩
end Tw

namespace Tw
open PySem PySem.Spec PyProof.Rows L2
section
variable {K : KW} {B : Bs} {F F' H H' : Hp} {O : Addr → Option Nat} {σ : List (Option V)} {env : Env} {ts : List V} {te : List A}
theorem RelF.ext2 (R : RelF K B F O σ env ts te H) (s : Same F F') (s2 : Same F' H') (k : ∀ b j, O b = some j → H' b = H b ∧ F' b = none) (k2 : ∀ b o, B.H b ≠ none → H b = some o → O b = none → H' b = some o)
    (k3 : ∀ b, F b = none → F' b ≠ none → B.H b = none) (tb : TabH K H') : RelF K B F' O σ env ts te H' := by
  refine ⟨R.ln, fun i a e => ?_, R.tm.mono s rfl (fun j _ _ b z => ⟨z, (k b j z).1⟩) (fun _ _ _ _ z => z) (fun i _ _ b z => ⟨z, (k b i z).1⟩), s2, fun a j z => ?_, R.b1.trans s, fun b o h1 ht h2 => ?_, fun b h1 h2 => ?_, fun b h => ?_, R.bi, R.tb.1, tb⟩
  · obtain ⟨v, e1, h⟩ := R.sl i a e
    exact ⟨v, e1, h.mono s (fun b z => ⟨z, (k b i z).1⟩) (fun _ _ => rfl) (fun _ _ _ _ z => z) (fun i' _ _ b z => ⟨z, (k b i' z).1⟩)⟩
  · obtain ⟨h1, h2, h3, h4⟩ := R.of a j z
    exact ⟨(k a j z).2, by rw [(k a j z).1]; exact h2, h3, h4⟩
  · have e := R.b2 b o h1 ht h2
    cases q : O b with
    | none => exact k2 b o (by rw [h2]; exact nofun) e q
    | some j => rw [(k b j q).1]; exact e
  · by_cases c : F b = none
    · exact .inl (k3 b c h2)
    · exact R.b3 b h1 c
  · have e := R.b5 b h
    cases q : O b with
    | none =>
      cases q2 : H b with
      | none => exact absurd q2 e
      | some o => rw [k2 b o h q2 q]; exact nofun
    | some j => rw [(k b j q).1]; exact e
/-- a dict on top is locked for good -/
theorem RelF.lockT {d : Addr} {us : List (Key × V)} {kvs : List (Key × Dt)} {ob : Obj} (R : RelF K B F O σ env (.ref d :: ts) (.own (.dc kvs) :: te) H) (hd : H d = some (.dK us)) :
    Rel K B σ env (.ref d :: ts) (.d (.dict (kvs.map fun q => (kD q.1, q.2))) :: te) (upd H d (.frz ob (.dK us))) := by
  obtain ⟨a, us', ea, ⟨oa, ba⟩, ha, pr⟩ := R.tm.1
  cases ea
  rw [hd] at ha
  cases ha
  have fd := (R.of d _ oa).1
  have R1 := R.pop
  have od : (fun b => if O b = some (σ.length + ts.length) then none else O b) d = none := if_pos oa
  have nd : ∀ b j, (fun b => if O b = some (σ.length + ts.length) then none else O b) b = some j → b ≠ d := fun b j z e => by rw [e, od] at z; cases z
  have s : Same F (upd F d (.frz ob (.dK us))) := same_newV fd
  have R2 := R1.ext2 (F' := upd F d (.frz ob (.dK us))) (H' := upd H d (.frz ob (.dK us))) s (fun b u e => by
      by_cases hb : b = d
      · subst hb; rw [upd_same] at e ⊢; exact e
      · rw [upd_ne hb] at e ⊢; exact R.sf b u e)
    (fun b j z => ⟨upd_ne (nd b j z), by rw [upd_ne (nd b j z)]; exact (R1.of b j z).1⟩)
    (fun b o hb e _ => by rw [upd_ne (fun z => by rw [z] at hb; exact hb ba)]; exact e)
    (fun b h1 h2 => by
      by_cases hb : b = d
      · rw [hb]; exact ba
      · rw [upd_ne hb] at h2; exact absurd h1 h2)
    (R.tb.2.mono fun b o t z => by
      rw [upd_ne]
      · exact z
      · intro e
        rw [e, hd] at z
        have z := Option.some.inj z
        rcases t with ⟨ps, rfl⟩ | ⟨c, q, rfl⟩
        · cases z
        · unfold LamX.CodeO at z
          cases z)
  exact R2.pushD (.dct (.inr ⟨ob, upd_same⟩) (paired_ks (L2.Paired.mapP pr fun _ _ z => ⟨z.1, z.2.same s⟩)))
end
/-! ### for a, b in e.items(), e a dict just made -/
def itmD (kvs : List (Key × Dt)) : List Dt := kvs.map fun q => .tuple [kD q.1, q.2]
theorem dnKs_get {K : KW} {F : Hp} : ∀ {us : List (Key × V)} {kvs : List (Key × Dt)} {i : Nat} {k : Key} {v : V}, DnKs K F us (kvs.map fun q => (kD q.1, q.2)) → us[i]? = some (k, v) → ∃ q, kvs[i]? = some q ∧ kD q.1 = kD k ∧ Dn K F v q.2
  | [], [], i, _, _, _, h => by simp at h
  | (k0, v0) :: us, [], i, _, _, h, _ => nomatch h
  | [], q :: kvs, i, _, _, h, _ => nomatch h
  | (k0, v0) :: us, q :: kvs, 0, k, v, h, e => by
    simp at e
    obtain ⟨rfl, rfl⟩ := e
    obtain ⟨q1, q2⟩ := q
    generalize hx : ((q1, q2) :: kvs).map (fun q => (kD q.1, q.2)) = L at h
    cases h with
    | cons d ds =>
      simp at hx
      exact ⟨_, rfl, hx.1.1, by rw [hx.1.2]; exact d⟩
  | (k0, v0) :: us, q :: kvs, i + 1, k, v, h, e => by
    generalize hx : (q :: kvs).map (fun q => (kD q.1, q.2)) = L at h
    cases h with
    | cons d ds =>
      simp at hx
      rw [← hx.2] at ds
      obtain ⟨q', h1, h2, h3⟩ := dnKs_get (i := i) ds (by simpa using e)
      exact ⟨q', by simpa using h1, h2, h3⟩
theorem dnKs_len {K : KW} {F : Hp} : ∀ {us : List (Key × V)} {ds : List (Dt × Dt)}, DnKs K F us ds → us.length = ds.length
  | _, _, .nil => rfl
  | _, _, .cons _ h => congrArg (· + 1) (dnKs_len h)
theorem dn_kV {K : KW} {F : Hp} {k : Key} (h : flatD (kD k) = true) : Dn K F (kV k) (kD k) := by
  cases k with
  | inl i => exact .int i
  | inr x => exact .str x (of_decide_eq_true h)
def isLk : A → Bool
  | .lk _ => true
  | _ => false
section
variable {K : KW} {B : Bs} {W : WX} {F H : Hp} {O : Addr → Option Nat} {σ : List (Option V)} {env : Env} {ts : List V} {te : List A}
/-- what stands fixed from here on -/
def Bs.fix (B : Bs) (F : Hp) : Bs := { B with F := F }
theorem CellO.fix (b : Same B.F F) {j : Nat} {v : V} {a : A} (h : CellO K B F H O σ j v a) : CellO K (B.fix F) F H O σ j v a := by
  cases a with
  | lk kvs =>
    obtain ⟨a, o, us, e, q, d⟩ := h
    exact ⟨a, o, us, e, b _ _ q, d.same b⟩
  | _ => exact h
theorem TmO.fix (b : Same B.F F) : ∀ {ts : List V} {te : List A}, TmO K B F H O σ ts te → TmO K (B.fix F) F H O σ ts te
  | [], [], _ => trivial
  | _ :: _, _ :: _, h => ⟨CellO.fix b h.1, TmO.fix b h.2⟩
theorem RelF.fix (R : RelF K B F O σ env ts te H) : RelF K (B.fix F) F O σ env ts te H :=
  ⟨R.ln, fun i a e => by obtain ⟨v, h1, h2⟩ := R.sl i a e; exact ⟨v, h1, h2.fix R.b1⟩, R.tm.fix R.b1, R.sf, R.of, Same.refl F, R.b2, fun b h1 h2 => absurd h1 h2, R.b5, R.bi, fun p hp => ⟨R.noF hp, (R.tb.1 p hp).2⟩, R.tb.2⟩
theorem CellO.unfix {F0 : Hp} {j : Nat} {v : V} {a : A} (h : CellO K (B.fix F0) F H O σ j v a) (n : isLk a = false) : CellO K B F H O σ j v a := by
  cases a <;> first | exact h | cases n
theorem TmO.unfix {F0 : Hp} : ∀ {ts : List V} {te : List A}, TmO K (B.fix F0) F H O σ ts te → te.any isLk = false → TmO K B F H O σ ts te
  | [], [], _, _ => trivial
  | _ :: _, a :: te, h, n => by
    have n' : isLk a = false ∧ te.any isLk = false := by simpa using n
    exact ⟨CellO.unfix h.1 n'.1, TmO.unfix h.2 n'.2⟩
theorem RelF.unfix {F0 : Hp} {O0 : Addr → Option Nat} {σ0 : List (Option V)} {env0 : Env} {ts0 : List V} {te0 : List A} {H0 : Hp} (R0 : RelF K B F0 O0 σ0 env0 ts0 te0 H0) (R : RelF K (B.fix F0) F O σ env ts te H) (n : anyC isLk env te = false) : RelF K B F O σ env ts te H := by
  refine ⟨R.ln, fun i a e => ?_, TmO.unfix R.tm ?_, R.sf, R.of, R0.b1.trans R.b1, R.b2, fun b h1 h2 => ?_, R.b5, R.bi, R0.tb.1, R.tb.2⟩
  · obtain ⟨v, h1, h2⟩ := R.sl i a e
    exact ⟨v, h1, h2.unfix (anyC_env n e)⟩
  · unfold anyC at n
    exact (Bool.or_eq_false_iff.mp n).2
  · by_cases c : F0 b = none
    · exact R.b3 b c h2
    · exact R0.b3 b h1 c
/-- [.. for a, b in e.items() ..], e a dict just made -/
noncomputable def mLcI (m : ME) (g : MG) (tt : MT) (el : ME) (vs : List Nat) : ME := fun env te => (m env te).bind fun a e => match a with
  | .own (.dc kvs) => if (kvs.all fun q => flatD (kD q.1)) = true then (match mLc kdQ (fun env _ => .ok ([], fun _ => some (itmD kvs)) env) g tt el vs e te with
      | .ok r e2 => if anyC isLk e2 (r :: te) = true then .bad else .ok r e2
      | _ => .bad) else .bad
  | _ => .bad
theorem iti_wd {d : Addr} {ob : Obj} {us : List (Key × V)} {kvs : List (Key × Dt)} (hB : B.F d = some (.frz ob (.dK us))) (dk : DnKs K B.F us (kvs.map fun q => (kD q.1, q.2))) (hf : (kvs.all fun q => flatD (kD q.1)) = true) : WDk K B kdQ (Iti d ob us) [] [] (fun _ => some (itmD kvs)) := by
  intro i σ env us2 ue ts te H xs hl R hrd
  cases hrd
  obtain ⟨F, O, R⟩ := R
  have hd : H d = some (.frz ob (.dK us)) := R.sf _ _ (R.b1 _ _ hB)
  have ln : us.length = (itmD kvs).length := by rw [dnKs_len dk, List.length_map]; unfold itmD; rw [List.length_map]
  refine ⟨fun hi => ⟨hd, by omega⟩, fun x hx => ?_⟩
  have il := (List.getElem?_eq_some_iff.mp hx).1
  refine ⟨⟨hd, by omega⟩, fun w H3 hy => ?_⟩
  obtain ⟨T, k, v, e1, rfl, nT, rfl⟩ := hy
  obtain ⟨q, h1, h2, h3⟩ := dnKs_get dk e1
  unfold itmD at hx
  rw [List.getElem?_map, h1] at hx
  cases hx
  have fk : flatD (kD q.1) = true := List.all_eq_true.mp hf q (List.mem_of_getElem? h1)
  refine R.pushQ nT (.cons ?_ (.cons (h3.same R.b1) .nil))
  rw [h2] at fk ⊢
  exact dn_kV fk
theorem se_lcI {t : TE} {g : TG} {tt : TT} {te' : TE} {vs : List Nat} {m : ME} {mg : MG} {mt : MT} {el : ME} (h : SE K B W t m) (hg : ∀ B, SGw K B vs g mg) (ht : ∀ B, ST K B W0 tt mt) (he : ∀ B, SE K B W0 te' el) : SE K B W (tLc (iItemsF t) g tt te' vs) (mLcI m mg mt el vs) := by
  intro σ env ts te H Q R p
  refine h σ env ts te H _ R ?_
  unfold mLcI at p
  cases q : m env te with
  | ex x e => rw [q] at p; exact p
  | bad => rw [q] at p; exact p
  | ok a e =>
    rw [q] at p
    simp only [Rs.bind_ok] at p
    intro v H1 R1
    split at p
    · rename_i kvs
      split at p
      · rename_i hf
        obtain ⟨F1, O1, R1⟩ := R1
        obtain ⟨d, us, rfl, od, hd, pr⟩ := id R1.tm.1
        refine ⟨d, us, rfl, hd, fun ob => ?_⟩
        obtain ⟨F2, O2, R2⟩ := R1.lockT (ob := ob) hd
        have c2 : Dn K F2 (.ref d) (.dict (kvs.map fun q => (kD q.1, q.2))) := R2.tm.1
        have hF : F2 d = some (.frz ob (.dK us)) ∧ DnKs K F2 us (kvs.map fun q => (kD q.1, q.2)) := by
          cases c2 with
          | dct r dk =>
            have e : (upd H1 d (.frz ob (.dK us))) d = some (.frz ob (.dK us)) := upd_same
            rcases r with r | ⟨o', r⟩
            · have := R2.sf _ _ r
              rw [e] at this
              cases this
            · have h2 := R2.sf _ _ r
              rw [e] at h2
              cases h2
              exact ⟨r, dk⟩
        have R2p := R2.pop
        have R3 := R2p.fix
        show tLc (fun σ H R => R (Iti d ob us) H) g tt te' vs σ (upd H1 d (.frz ob (.dK us))) Q
        refine se_lc (K := K) (B := B.fix F2) (W := W) (kd := kdQ) (ti := fun σ H R => R (Iti d ob us) H) (mi := fun env _ => .ok ([], fun _ => some (itmD kvs)) env) (fun σ' env' ts' te' H' R' Rl pp => pp _ [] H' rfl Rl (iti_wd (B := B.fix F2) hF.1 hF.2 hf)) (hg _) (ht _) (he _) σ e ts te _ Q ⟨_, _, R3⟩ ?_
        cases q2 : mLc kdQ (fun env _ => .ok ([], fun _ => some (itmD kvs)) env) mg mt el vs e te with
        | ex x e2 => simp only [q2] at p; exact p.elim
        | bad => simp only [q2] at p; exact p.elim
        | ok r e2 =>
          simp only [q2] at p
          split at p
          · exact p.elim
          · rename_i hn
            rintro v2 H2 ⟨F4, O4, R4⟩
            exact p v2 H2 ⟨F4, O4, RelF.unfix R2p R4 (by simpa using hn)⟩
      · exact p.elim
    · exact p.elim
end
end Tw

namespace Tw
open PySem PySem.Spec PyProof.Rows L2
/-! ### d.setdefault(k, x) -/
def setdA (e3 : Env) (te : List A) (a b c : A) : Rs A := match (b.val e3).bind keyD, a, c with
  | some k, .rf i none, .d y => (match owAt e3 i with
    | some (.dc kvs) => if kvs.length < sizeLine then (match lkD kvs k with
        | some x => .ok (.d x) e3
        | none => (match putA e3 (.d y :: te) a b (.d y) with
          | some e4 => .ok (.d y) e4
          | none => .bad)) else .bad
    | _ => .bad)
  | _, _, _ => .bad
def mSetd (md mk mx : ME) : ME := fun env te => (md env te).bind fun a e1 => if isDct e1 a = true then (mk e1 (a :: te)).bind fun b e2 => (mx e2 (b :: a :: te)).bind fun c e3 => setdA e3 te a b c else .bad
section
variable {K : KW} {B : Bs} {W : WX}
theorem se_setd {td tk tx : TE} {md mk mx : ME} (hd : SE K B W td md) (hk : SE K B W tk mk) (hx : SE K B W tx mx) : SE K B W (tDSetd td tk tx) (mSetd md mk mx) := by
  intro σ env ts te H Q R p
  refine hd.thE R p fun a e p v H1 R1 => ?_
  split at p
  case isFalse => exact False.elim p
  rename_i hi
  have ⟨pa0, us0, e0, rd0⟩ : ∃ p us, v = .ref p ∧ Rd H1 p (.dK us) := by
    obtain ⟨F, O, R1⟩ := R1
    exact isDct_d R1 R1.tm.1 hi
  refine ⟨pa0, e0, .inl ⟨us0, rd0⟩, ?_⟩
  refine hk σ e _ _ H1 _ R1 ?_
  cases q : mk e (a :: te) with
  | ex x e2 => rw [q] at p; exact XPost.push p v a
  | bad => rw [q] at p; exact p
  | ok b e2 =>
    rw [q] at p
    simp only [Rs.bind_ok] at p
    intro u H2 R2
    refine hx σ e2 _ _ H2 _ R2 ?_
    cases q2 : mx e2 (b :: a :: te) with
    | ex x e3 => rw [q2] at p; exact XPost.push (XPost.push p v a) u b
    | bad => rw [q2] at p; exact p
    | ok c e3 =>
      rw [q2] at p
      simp only [Rs.bind_ok] at p
      rintro w H3 ⟨F, O, R3⟩
      unfold setdA at p
      cases eb : b.val e3 with
      | none => simp only [eb, Option.bind_none] at p; exact False.elim p
      | some y =>
        cases ek : keyD y with
        | none => simp only [eb, Option.bind_some, ek] at p; exact False.elim p
        | some k =>
          simp only [eb, Option.bind_some, ek] at p
          have eu := keyD_kV (cell_val R3 R3.tm.2.1 eb) ek
          cases a with
          | rf i pt =>
            cases pt with
            | some _ => exact False.elim p
            | none =>
              cases c with
              | d x =>
                simp only at p
                cases eo : owAt e3 i with
                | none => simp only [eo] at p; exact False.elim p
                | some o =>
                  cases o with
                  | dc kvs =>
                    simp only [eo] at p
                    split at p
                    · rename_i hlen
                      obtain ⟨v', hw, e1⟩ := R3.tm.2.2.1
                      have e1 : v = v' := e1
                      subst e1
                      obtain ⟨pd, us, ep, _, hpd, pr⟩ := R3.owAt eo hw
                      have epp : pd = pa0 := by rw [e0] at ep; exact (V.ref.inj ep).symm
                      subst epp
                      have lk := paired_lk pr k
                      have dx : Dn K F w x := R3.tm.1
                      refine ⟨us, k, hpd, eu, by rw [pr.length]; exact hlen, fun v2 hv2 => ?_, fun hv2 => ?_⟩
                      · cases ql : lkD kvs k with
                        | none => rw [lk.2 ql] at hv2; cases hv2
                        | some x2 =>
                          simp only [ql] at p
                          obtain ⟨v3, h3, d3⟩ := lk.1 x2 ql
                          rw [h3] at hv2
                          cases hv2
                          exact p _ H3 (R3.pop.pop.pop.pushD d3)
                      · cases ql : lkD kvs k with
                        | some x2 =>
                          obtain ⟨v3, h3, _⟩ := lk.1 x2 ql
                          rw [h3] at hv2
                          cases hv2
                        | none =>
                          simp only [ql] at p
                          cases qp : putA e3 (.d x :: te) (.rf i none) b (.d x) with
                          | none => simp only [qp] at p; exact False.elim p
                          | some e4 =>
                            simp only [qp] at p
                            have R4 : RelF K B F _ σ e3 (w :: w :: ts) (.d x :: .d x :: te) H3 := (R3.pop.pop.pop.push (a := .d x) dx).push (a := .d x) dx
                            have R5 := rel_wipeK (i := i) (k := k) R4
                            unfold putA at qp
                            rw [eb, Option.bind_some, ek] at qp
                            simp only at qp
                            cases ea : (wipeK i k e3)[i]? with
                            | none => rw [ea] at qp; cases qp
                            | some oa =>
                              cases oa with
                              | none => rw [ea] at qp; cases qp
                              | some ca =>
                                cases eo2 : owAt (wipeK i k e3) i with
                                | none => rw [ea, eo2] at qp; cases qp
                                | some o2 =>
                                  rw [ea, eo2] at qp
                                  simp only at qp
                                  split at qp
                                  · rename_i nn
                                    obtain ⟨pa, us', ep', hp', hl', R6⟩ := rel_put R5 hw ea eo2 nn qp
                                    have : pa = pd := by rw [ep] at ep'; exact (V.ref.inj ep').symm
                                    subst this
                                    rw [hpd] at hp'
                                    cases hp'
                                    exact p w _ R6
                                  · cases qp
                    · exact False.elim p
                  | _ => simp only [eo] at p; exact False.elim p
              | _ => exact False.elim p
          | _ => exact False.elim p
end
end Tw

namespace Tw
open PySem PySem.Spec PyProof.Rows L2
/-! ### methods of a text with one flat argument -/
/-! ### strip(letters) -/
section
variable {X : Cx} {o e : Expr} {to te : TE}
end
end Tw

/-! str(int), isdigit, split at a text -/
namespace Tw
open PySem PySem.Spec PyProof.Rows L2
/-! a method of a text without arguments -/
def mM0 (g : Str → Dt) (ma : ME) : ME := fun env te => (ma env te).bind fun a e => match a with
  | .d (.str s) => .ok (.d (g s)) e
  | _ => .bad
/-! split at a text -/
end Tw

namespace Tw
open PySem PySem.Spec PyProof.Rows L2
theorem big {n : Nat} (h : n ≤ 100000) : n ≤ sizeLine := by
  rw [PySem.sizeLine_eq]
  omega
theorem big' {n : Nat} (h : n ≤ 100000) : n < sizeLine := by
  rw [PySem.sizeLine_eq]
  omega
theorem atI_of {α : Type} {xs : List α} {i : Int} (h0 : 0 ≤ i) (h1 : i < xs.length) : ∃ v, atI xs i = some v ∧ v ∈ xs := by
  obtain ⟨j, rfl⟩ : ∃ j : Nat, i = j := ⟨i.toNat, by omega⟩
  have hj : j < xs.length := by omega
  exact ⟨xs[j], atI_nat (List.getElem?_eq_getElem hj), List.getElem_mem hj⟩
/-! ### names: one to eight letters -/
def IsLt (c : Nat) : Prop := 97 ≤ c ∧ c ≤ 122
def IsNm (z : Str) : Prop := 1 ≤ (TL.tl z).length ∧ (TL.tl z).length ≤ 8 ∧ ∀ c ∈ TL.tl z, IsLt c
abbrev letters : Str := "abcdefghijklmnopqrstuvwxyz"
theorem letters_get : ∀ k : Nat, k < 26 → (letters.cps.toList)[k]? = some (97 + k) := by decide +kernel
theorem letters_at {i : Int} (h0 : 0 ≤ i) (h1 : i < 26) : atI letters.cps.toList i = some (97 + i.toNat) := by
  obtain ⟨j, rfl⟩ : ∃ j : Nat, i = j := ⟨i.toNat, by omega⟩
  exact atI_nat (letters_get j (by omega))
theorem len_tl_le {z : Str} {n : Nat} (h : (TL.tl z).length ≤ n) (hn : n ≤ 100000) : z.length ≤ sizeLine := by
  rw [TL.len_tl]
  exact big (by omega)
/-- texts of one sign each, joined -/
theorem tl_joinE : ∀ ys : List Str, TL.tl (Txt.join "" ys) = (ys.map TL.tl).flatten
  | [] => by
    rw [TL.join_eq]
    rfl
  | [x] => by
    rw [TL.join_eq]
    show TL.tl x = _
    simp
  | x :: y :: r => by
    have ih := tl_joinE (y :: r)
    rw [TL.join_eq] at ih
    rw [TL.join_eq]
    show TL.tl (x ++ ("" : Str) ++ Str.join "" (y :: r)) = _
    rw [TL.tl_append, TL.tl_append, ih]
    have e : TL.tl ("" : Str) = [] := by decide +kernel
    rw [e]
    simp
theorem tl_singles (cs : List Nat) : TL.tl (Txt.join "" (cs.map fun c => (⟨#[c]⟩ : Str))) = cs := by
  rw [tl_joinE]
  induction cs with
  | nil => rfl
  | cons c r ih =>
    rw [List.map_cons, List.map_cons, List.flatten_cons, ih]
    rfl
theorem tl_cutS (z : Str) (lo hi : Option Int) : TL.tl (cutS z lo hi) = ((TL.tl z).drop (HT.sIx (TL.tl z).length 0 lo)).take (HT.sIx (TL.tl z).length (TL.tl z).length hi - HT.sIx (TL.tl z).length 0 lo) := by
  show ((z.cps.toList.drop (HT.sIx z.length 0 lo)).take (HT.sIx z.length z.length hi - HT.sIx z.length 0 lo)).toArray.toList = _
  rw [TL.len_tl]
theorem tl_cut_to (z : Str) (k : Nat) : TL.tl (cutS z none (some (k : Int))) = (TL.tl z).take k := by
  rw [tl_cutS, HT.sIx_none, HT.sIx_nat, List.drop_zero, Nat.sub_zero]
  by_cases h : k ≤ (TL.tl z).length
  · rw [Nat.min_eq_left h]
  · rw [Nat.min_eq_right (by omega), List.take_of_length_le (Nat.le_refl _), List.take_of_length_le (by omega)]
theorem tl_cut_from (z : Str) (k : Nat) : TL.tl (cutS z (some (k : Int)) none) = (TL.tl z).drop k := by
  rw [tl_cutS, HT.sIx_none, HT.sIx_nat]
  by_cases h : k ≤ (TL.tl z).length
  · rw [Nat.min_eq_left h]
    exact List.take_of_length_le (by rw [List.length_drop]; omega)
  · rw [Nat.min_eq_right (by omega), List.drop_of_length_le (Nat.le_refl _), List.drop_of_length_le (by omega)]
    simp
theorem tl_mul (z : Str) (n : Nat) (hn : 2 ≤ n) (hz : 1 ≤ (TL.tl z).length) : TL.tl (Txt.mul z (n : Int)) = (List.replicate n (TL.tl z)).flatten := by
  have h1 : ¬ ((n : Int) < 1) := by omega
  have h2 : ((n : Int) == 1 || z.length == 0) = false := by
    rw [TL.len_tl, Bool.or_eq_false_iff, beq_eq_false_iff_ne, beq_eq_false_iff_ne]
    omega
  unfold Txt.mul
  rw [if_neg h1, h2, if_neg Bool.false_ne_true, Int.toNat_natCast]
  show ((List.replicate n z.cps).foldl (· ++ ·) #[]).toList = _
  have gen : ∀ (m : Nat) (acc : Array Nat), ((List.replicate m z.cps).foldl (· ++ ·) acc).toList = acc.toList ++ (List.replicate m z.cps.toList).flatten := by
    intro m
    induction m with
    | zero => intro acc; simp
    | succ m ih =>
      intro acc
      rw [List.replicate_succ, List.foldl_cons, ih, List.replicate_succ, List.flatten_cons, Array.toList_append, List.append_assoc]
  rw [gen]
  rfl
theorem mulOk_small {z : Str} {n : Nat} (hn : n ≤ 100) (hz : (TL.tl z).length ≤ 100) : MulOk z (n : Int) := by
  have hl : z.length ≤ 100 := by rw [TL.len_tl]; exact hz
  refine ⟨?_, fun h1 h2 => ?_, fun h1 h2 => ?_⟩
  · rw [Bool.or_eq_false_iff, decide_eq_false_iff_not, decide_eq_false_iff_not]
    omega
  · have h3 : 0 < (n : Int) := by omega
    have h4 : (100 : Int) * n ≤ 2 ^ 63 - 1 := by omega
    have h5 : (100 : Int) ≤ (2 ^ 63 - 1) / n := (Int.le_ediv_iff_mul_le h3).mpr h4
    omega
  · have h6 : z.length * (n : Int).toNat ≤ 10000 := by
      rw [Int.toNat_natCast]
      exact Nat.le_trans (Nat.mul_le_mul hl hn) (by decide)
    unfold PySem.Builtin.Str.tooLong
    rw [decide_eq_false_iff_not]
    have := big (n := z.length * (n : Int).toNat) (by omega)
    omega
/-! ### lists without repeats -/
theorem len_le_of_sub {α : Type} [DecidableEq α] : ∀ {l m : List α}, l.Nodup → (∀ x ∈ l, x ∈ m) → l.length ≤ m.length
  | [], _, _, _ => Nat.zero_le _
  | x :: l, m, hn, hs => by
    have hx : x ∈ m := hs x List.mem_cons_self
    obtain ⟨h1, h2⟩ := List.nodup_cons.mp hn
    have ih := len_le_of_sub (l := l) (m := m.erase x) h2 fun y hy => (List.mem_erase_of_ne (fun e => h1 (by rw [← e]; exact hy))).mpr (hs y (List.mem_cons_of_mem _ hy))
    rw [List.length_erase_of_mem hx] at ih
    have : 0 < m.length := List.length_pos_of_mem hx
    rw [List.length_cons]
    omega
def spare (k : Nat) : Str := ⟨#[97 + k / 26, 97 + k % 26]⟩
def spares : List Str := (List.range 676).map spare
theorem spare_inj {a b : Nat} (h : spare a = spare b) : a = b := by
  have e : [97 + a / 26, 97 + a % 26] = [97 + b / 26, 97 + b % 26] := congrArg (fun z : Str => z.cps.toList) h
  injection e with e1 e2
  injection e2 with e3 _
  have h1 := Nat.div_add_mod a 26
  have h2 := Nat.div_add_mod b 26
  omega
theorem spares_len : spares.length = 676 := by
  unfold spares
  rw [List.length_map, List.length_range]
theorem spares_get {k : Nat} (h : k < 676) : spares[k]? = some (spare k) := by
  unfold spares
  rw [List.getElem?_map, List.getElem?_range h]
  rfl
theorem spare_nm {k : Nat} (h : k < 676) : IsNm (spare k) := by
  refine ⟨(by show 1 ≤ 2; decide), (by show 2 ≤ 8; decide), fun c hc => ?_⟩
  have hc' : c ∈ [97 + k / 26, 97 + k % 26] := hc
  have : k / 26 < 26 := by omega
  have : k % 26 < 26 := Nat.mod_lt _ (by decide)
  unfold IsLt
  rcases List.mem_cons.mp hc' with rfl | hc'
  · omega
  · rcases List.mem_cons.mp hc' with rfl | hc'
    · omega
    · cases hc'
theorem used_le {ns : List Str} {n : Nat} (hn : n ≤ 676) (h : ∀ j, j < n → spare j ∈ ns) : n ≤ ns.length := by
  have e : ((List.range n).map spare).length = n := by rw [List.length_map, List.length_range]
  rw [← e]
  refine len_le_of_sub ?_ fun x hx => ?_
  · exact List.pairwise_map.mpr (List.Pairwise.imp (fun hne he => hne (spare_inj he)) List.nodup_range)
  · obtain ⟨j, hj, rfl⟩ := List.mem_map.mp hx
    exact h j (List.mem_range.mp hj)
/-! ### woods: the first tree's name, what is in it, the other trees -/
inductive Wd where
  | nil
  | cons (n : Str) (i r : Wd)
namespace Wd
def names : Wd → List Str
  | nil => []
  | cons n i r => n :: (i.names ++ r.names)
def app : Wd → Wd → Wd
  | nil, v => v
  | cons n i r, v => cons n i (r.app v)
def take : Nat → Wd → Wd
  | 0, _ => nil
  | _ + 1, nil => nil
  | k + 1, cons n i r => cons n i (take k r)
def drop : Nat → Wd → Wd
  | 0, w => w
  | _ + 1, nil => nil
  | k + 1, cons _ _ r => drop k r
/-- a new tree at a, over t trees -/
def grp (a t : Nat) (nm : Str) (w : Wd) : Wd := (take a w).app (cons nm (take t (drop a w)) (drop t (drop a w)))
def upd (k : Str) (f : Wd → Wd) : Wd → Wd
  | nil => nil
  | cons n i r => if n = k then cons n (f i) r else cons n (upd k f i) (upd k f r)
def sub (k : Str) : Wd → Option Wd
  | nil => none
  | cons n i r => if n = k then some i else match sub k i with
    | some x => some x
    | none => sub k r
def size : Wd → Nat
  | nil => 0
  | cons _ i r => i.size + r.size + 1
/-- the ends of a wood: true: the begin -/
def toks : Wd → List (Bool × Str)
  | nil => []
  | cons n i r => (true, n) :: (i.toks ++ (false, n) :: r.toks)
/-- the data of its trees -/
def data : Wd → List PyData
  | nil => []
  | cons n i r => .tuple [.str n, .tuple i.data] :: r.data
end Wd
def tkS (p : Bool × Str) : Str := if p.1 = true then ("+" : Str) ++ p.2 else ("-" : Str) ++ p.2
def Wd.put (k : Str) (a t : Nat) (nm : Str) (w : Wd) : Wd := if k = "" then w.grp a t nm else w.upd k (Wd.grp a t nm)
def Wd.inn (k : Str) (w : Wd) : Option Wd := if k = "" then some w else w.sub k
theorem nm_ne {z : Str} (h : IsNm z) : z ≠ "" := by
  rintro rfl
  exact absurd h.1 (by decide +kernel)
theorem tl_tk (p : Bool × Str) : TL.tl (tkS p) = (if p.1 = true then 43 else 45) :: TL.tl p.2 := by
  unfold tkS
  split
  · rw [TL.tl_append]
    rfl
  · rw [TL.tl_append]
    rfl
theorem tk_at0 (p : Bool × Str) : atI (tkS p).cps.toList 0 = some (if p.1 = true then 43 else 45) := by
  show atI (TL.tl (tkS p)) 0 = _
  rw [tl_tk]
  exact atI_nat (j := 0) rfl
theorem tk_cut (p : Bool × Str) : cutS (tkS p) (some 1) none = p.2 := by
  apply TL.ext_tl
  have e := tl_cut_from (tkS p) 1
  rw [tl_tk] at e
  exact e
/-! ### places of the ends in a row -/
theorem toks_names2 (b : Bool) : ∀ (w : Wd) (n : Str), (b, n) ∈ w.toks ↔ n ∈ w.names
  | .nil, n => ⟨(fun h => nomatch h), (fun h => nomatch h)⟩
  | .cons m i r, n => by
    show (b, n) ∈ (true, m) :: (i.toks ++ (false, m) :: r.toks) ↔ n ∈ m :: (i.names ++ r.names)
    rw [List.mem_cons, List.mem_append, List.mem_cons, List.mem_cons, List.mem_append, toks_names2 b i n, toks_names2 b r n]
    cases b with
    | true =>
      constructor
      · rintro (h | h | h | h)
        · exact .inl (Prod.mk.inj h).2
        · exact .inr (.inl h)
        · exact nomatch (Prod.mk.inj h).1
        · exact .inr (.inr h)
      · rintro (h | h | h)
        · exact .inl (by rw [h])
        · exact .inr (.inl h)
        · exact .inr (.inr (.inr h))
    | false =>
      constructor
      · rintro (h | h | h | h)
        · exact nomatch (Prod.mk.inj h).1
        · exact .inr (.inl h)
        · exact .inl (Prod.mk.inj h).2
        · exact .inr (.inr h)
      · rintro (h | h | h)
        · exact .inr (.inr (.inl (by rw [h])))
        · exact .inr (.inl h)
        · exact .inr (.inr (.inr h))
theorem toks_nodup : ∀ {w : Wd}, w.names.Nodup → w.toks.Nodup
  | .nil, _ => List.nodup_nil
  | .cons m i r, nd => by
    have nd' : (m :: (i.names ++ r.names)).Nodup := nd
    rw [List.nodup_cons] at nd'
    have nda := List.nodup_append.mp nd'.2
    have ni : m ∉ i.names := fun h => nd'.1 (List.mem_append_left _ h)
    have nr : m ∉ r.names := fun h => nd'.1 (List.mem_append_right _ h)
    show ((true, m) :: (i.toks ++ (false, m) :: r.toks)).Nodup
    rw [List.nodup_cons, List.nodup_append, List.nodup_cons]
    refine ⟨fun h => ?_, toks_nodup nda.1, ⟨fun h => nr ((toks_names2 _ _ _).mp h), toks_nodup nda.2.1⟩, fun x hx y hy e => ?_⟩
    · rcases List.mem_append.mp h with h | h
      · exact ni ((toks_names2 _ _ _).mp h)
      · rcases List.mem_cons.mp h with h | h
        · exact nomatch (Prod.mk.inj h).1
        · exact nr ((toks_names2 _ _ _).mp h)
    · subst e
      obtain ⟨b, n⟩ := x
      have h1 := (toks_names2 _ _ _).mp hx
      rcases List.mem_cons.mp hy with h | h
      · exact ni (by rw [← (Prod.mk.inj h).2]; exact h1)
      · exact nda.2.2 _ h1 _ ((toks_names2 _ _ _).mp h) rfl
def plc (p : Bool × Str) : List (Bool × Str) → Nat
  | [] => 0
  | x :: r => if x = p then 0 else plc p r + 1
/-! ### loops, by what holds at each round -/
theorem lcM_inv {kd : Dt → A} {rd : Env → Option (List Dt)} {xs0 : List Dt} {te : List A} {g : MG} {tt : MT} {el : ME} {vs : List Nat} (I : List Dt → List Dt → Env → Prop) (hr : ∀ r acc e, I r acc e → rd e = some xs0)
    (step : ∀ x r acc e, I (x :: r) acc e → ∃ e1, g (kd x) e (.own (.l acc) :: te) = some e1 ∧ ∃ b e2, tt e1 (.own (.l acc) :: te) = .ok b e2 ∧
      (b = true → ∃ y e3, el e2 (.own (.l acc) :: te) = .ok (.d y) e3 ∧ acc.length < sizeLine ∧ wipeOk e3 (.own (.l (acc ++ [y])) :: te) vs = true ∧ I r (acc ++ [y]) (wipeE e3 vs)) ∧
      (b = false → wipeOk e2 (.own (.l acc) :: te) vs = true ∧ I r acc (wipeE e2 vs))) : ∀ r acc e, I r acc e → ∃ ys e', lcM kd rd xs0 te g tt el vs r acc e = .ok ys e' ∧ I [] ys e'
  | [], acc, e, h => ⟨acc, e, by unfold lcM; rw [if_pos (hr _ _ _ h)], h⟩
  | x :: r, acc, e, h => by
    obtain ⟨e1, h1, b, e2, h2, ht, hf⟩ := step x r acc e h
    cases b with
    | true =>
      obtain ⟨y, e3, h3, hl, hw, hi⟩ := ht rfl
      obtain ⟨ys, e', h4, h5⟩ := lcM_inv I hr step r _ _ hi
      refine ⟨ys, e', ?_, h5⟩
      unfold lcM
      rw [if_pos (hr _ _ _ h), h1]
      show ((tt e1 (.own (.l acc) :: te)).noX.bind _) = _
      rw [h2]
      show ((el e2 (.own (.l acc) :: te)).noX.bind _) = _
      rw [h3]
      show (if acc.length < sizeLine ∧ wipeOk e3 (.own (.l (acc ++ [y])) :: te) vs = true then _ else _) = _
      rw [if_pos ⟨hl, hw⟩]
      exact h4
    | false =>
      obtain ⟨hw, hi⟩ := hf rfl
      obtain ⟨ys, e', h4, h5⟩ := lcM_inv I hr step r _ _ hi
      refine ⟨ys, e', ?_, h5⟩
      unfold lcM
      rw [if_pos (hr _ _ _ h), h1]
      show ((tt e1 (.own (.l acc) :: te)).noX.bind _) = _
      rw [h2]
      show (if wipeOk e2 (.own (.l acc) :: te) vs = true then _ else _) = _
      rw [if_pos hw]
      exact h4
end Tw

namespace Tw
open PySem PySem.Spec PyProof.Rows L2
theorem ev_mVar (i : Nat) (env : Env) (_u1 : _) : mVar i env _u1 = (match env[i]? with
  | some (some a) => .ok (vA i a) env
  | _ => .bad) := rfl
theorem ev_mC (x : Dt) (env : Env) (_u1 : _) : mC x env _u1 = (.ok (.d x) env) := rfl
theorem ev_mNil (env : Env) (_u1 : _) : mNil env _u1 = (.ok [] env) := rfl
def k_mCons_1 (a : A) : List A → Env → Rs (List A) := fun as e2 => .ok (a :: as) e2
theorem ek_mCons_1 (a : A) (as : List A) (e2 : Env) : k_mCons_1 a as e2 = (.ok (a :: as) e2 : Rs (List A)) := rfl
def k_mCons_0 (r : MA) (te : List A) : A → Env → Rs (List A) := fun a e1 => (r e1 (a :: te)).bind (k_mCons_1 a)
theorem ek_mCons_0 (r : MA) (te : List A) (a : A) (e1 : Env) : k_mCons_0 r te a e1 = ((r e1 (a :: te)).bind (k_mCons_1 a) : Rs (List A)) := rfl
theorem ev_mCons (m : ME) (r : MA) (env : Env) (te : List A) : mCons m r env te = ((m env te).bind (k_mCons_0 r te)) := rfl
def k_mD_0 (te : List A) : A → Env → Rs A := fun a e => match frzA a e te with
  | some (x, e') => .ok (.d x) e'
  | none => .bad
theorem ek_mD_0 (te : List A) (a : A) (e : Env) : k_mD_0 te a e = (match frzA a e te with
  | some (x, e') => .ok (.d x) e'
  | none => .bad : Rs A) := rfl
theorem ev_mD (m : ME) (env : Env) (te : List A) : mD m env te = ((m env te).bind (k_mD_0 te)) := rfl
def k_mOp_1 (f : Env → A → A → Rs A) (a : A) : A → Env → Rs A := fun b e2 => f e2 a b
theorem ek_mOp_1 (f : Env → A → A → Rs A) (a : A) (b : A) (e2 : Env) : k_mOp_1 f a b e2 = (f e2 a b : Rs A) := rfl
def k_mOp_0 (f : Env → A → A → Rs A) (mb : ME) (te : List A) : A → Env → Rs A := fun a e1 => (mb e1 (a :: te)).bind (k_mOp_1 f a)
theorem ek_mOp_0 (f : Env → A → A → Rs A) (mb : ME) (te : List A) (a : A) (e1 : Env) : k_mOp_0 f mb te a e1 = ((mb e1 (a :: te)).bind (k_mOp_1 f a) : Rs A) := rfl
theorem ev_mOp (f : Env → A → A → Rs A) (ma mb : ME) (env : Env) (te : List A) : mOp f ma mb env te = ((ma env te).bind (k_mOp_0 f mb te)) := rfl
def k_mU_0 (f : Env → A → Rs A) : A → Env → Rs A := fun a e1 => f e1 a
theorem ek_mU_0 (f : Env → A → Rs A) (a : A) (e1 : Env) : k_mU_0 f a e1 = (f e1 a : Rs A) := rfl
theorem ev_mU (f : Env → A → Rs A) (ma : ME) (env : Env) (te : List A) : mU f ma env te = ((ma env te).bind (k_mU_0 f)) := rfl
def k_mCB_0 (f : Env → List A → Rs A) : List A → Env → Rs A := fun as e => f e as
theorem ek_mCB_0 (f : Env → List A → Rs A) (as : List A) (e : Env) : k_mCB_0 f as e = (f e as : Rs A) := rfl
theorem ev_mCB (f : Env → List A → Rs A) (m : MA) (env : Env) (te : List A) : mCB f m env te = ((m env te).bind (k_mCB_0 f)) := rfl
theorem ev_fl2 (g : Dt → Dt → Option Dt) (env : Env) (a : A) (b : A) : fl2 g env a b = (match a.val env, b.val env with
  | some x, some y => match g x y with
    | some z => .ok (.d z) env
    | none => .bad
  | _, _ => .bad) := rfl
theorem ev_fl1 (g : Dt → Option Dt) (env : Env) (a : A) : fl1 g env a = (match a.val env with
  | some x => match g x with
    | some z => .ok (.d z) env
    | none => .bad
  | none => .bad) := rfl
theorem ev_mTst (m : ME) (env : Env) (te : List A) : mTst m env te = ((m env te).bind tstA) := rfl
def k_mAnd_0 (b : MT) (te : List A) : Bool → Env → Rs Bool := fun c e => if c = true then b e te else .ok false e
theorem ek_mAnd_0 (b : MT) (te : List A) (c : Bool) (e : Env) : k_mAnd_0 b te c e = (if c = true then b e te else .ok false e : Rs Bool) := rfl
theorem ev_mAnd (a b : MT) (env : Env) (te : List A) : mAnd a b env te = ((a env te).bind (k_mAnd_0 b te)) := rfl
def k_mOr_0 (b : MT) (te : List A) : Bool → Env → Rs Bool := fun c e => if c = true then .ok true e else b e te
theorem ek_mOr_0 (b : MT) (te : List A) (c : Bool) (e : Env) : k_mOr_0 b te c e = (if c = true then .ok true e else b e te : Rs Bool) := rfl
theorem ev_mOr (a b : MT) (env : Env) (te : List A) : mOr a b env te = ((a env te).bind (k_mOr_0 b te)) := rfl
def k_mNot_0 : Bool → Env → Rs Bool := fun c e => .ok (!c) e
theorem ek_mNot_0 (c : Bool) (e : Env) : k_mNot_0  c e = (.ok (!c) e : Rs Bool) := rfl
theorem ev_mNot (a : MT) (env : Env) (te : List A) : mNot a env te = ((a env te).bind (k_mNot_0)) := rfl
theorem ev_mYes (env : Env) (_u1 : _) : mYes env _u1 = (.ok true env) := rfl
def k_mIfE_0 (a : ME) (b : ME) (te : List A) : Bool → Env → Rs A := fun x e => if x = true then a e te else b e te
theorem ek_mIfE_0 (a : ME) (b : ME) (te : List A) (x : Bool) (e : Env) : k_mIfE_0 a b te x e = (if x = true then a e te else b e te : Rs A) := rfl
theorem ev_mIfE (c : MT) (a b : ME) (env : Env) (te : List A) : mIfE c a b env te = ((c env te).bind (k_mIfE_0 a b te)) := rfl
def k_mAndE_0 (b : ME) (te : List A) : Bool → Env → Rs A := fun c e => if c = true then b e te else .ok (.d (.bool false)) e
theorem ek_mAndE_0 (b : ME) (te : List A) (c : Bool) (e : Env) : k_mAndE_0 b te c e = (if c = true then b e te else .ok (.d (.bool false)) e : Rs A) := rfl
theorem ev_mAndE (a b : ME) (env : Env) (te : List A) : mAndE a b env te = ((mTst a env te).bind (k_mAndE_0 b te)) := rfl
def k_mOrE_0 (b : ME) (te : List A) : Bool → Env → Rs A := fun c e => if c = true then .ok (.d (.bool true)) e else b e te
theorem ek_mOrE_0 (b : ME) (te : List A) (c : Bool) (e : Env) : k_mOrE_0 b te c e = (if c = true then .ok (.d (.bool true)) e else b e te : Rs A) := rfl
theorem ev_mOrE (a b : ME) (env : Env) (te : List A) : mOrE a b env te = ((mTst a env te).bind (k_mOrE_0 b te)) := rfl
def k_mNotE_0 : Bool → Env → Rs A := fun c e => .ok (.d (.bool (!c))) e
theorem ek_mNotE_0 (c : Bool) (e : Env) : k_mNotE_0  c e = (.ok (.d (.bool (!c))) e : Rs A) := rfl
theorem ev_mNotE (a : ME) (env : Env) (te : List A) : mNotE a env te = ((mTst a env te).bind (k_mNotE_0)) := rfl
theorem ev_gN (i : Nat) (a : A) (env : Env) (te : List A) : gN i a env te = (if setOk i a env te = true then some (env.set i (some a)) else none) := rfl
theorem ev_gT (is : List Nat) (a : A) (env : Env) (te : List A) : gT is a env te = (match a.tup? with
  | some xs => gTs is xs env te
  | none => none) := rfl
def k_mAsg_0 (g : MG) (te : List A) : A → Env → Fl := fun a e => match g a e te with
  | some e' => .nx e'
  | none => .bad
theorem ek_mAsg_0 (g : MG) (te : List A) (a : A) (e : Env) : k_mAsg_0 g te a e = (match g a e te with
  | some e' => .nx e'
  | none => .bad : Fl) := rfl
theorem ev_mAsg (m : ME) (g : MG) (env : Env) (te : List A) : mAsg m g env te = ((m env te).fl (k_mAsg_0 g te)) := rfl
def k_mDrop_0 : A → Env → Fl := fun _v e => .nx e
theorem ek_mDrop_0 (_v : A) (e : Env) : k_mDrop_0  _v e = (.nx e : Fl) := rfl
theorem ev_mDrop (m : ME) (env : Env) (te : List A) : mDrop m env te = ((m env te).fl (k_mDrop_0)) := rfl
def k_mIfS_0 (a : MS) (b : MS) (te : List A) : Bool → Env → Fl := fun x e => if x = true then a e te else b e te
theorem ek_mIfS_0 (a : MS) (b : MS) (te : List A) (x : Bool) (e : Env) : k_mIfS_0 a b te x e = (if x = true then a e te else b e te : Fl) := rfl
theorem ev_mIfS (c : MT) (a b : MS) (env : Env) (te : List A) : mIfS c a b env te = ((c env te).fl (k_mIfS_0 a b te)) := rfl
def k_mRet_0 : A → Env → Fl := fun a e => .rt a e
theorem ek_mRet_0 (a : A) (e : Env) : k_mRet_0  a e = (.rt a e : Fl) := rfl
theorem ev_mRet (m : ME) (env : Env) (te : List A) : mRet m env te = ((m env te).fl (k_mRet_0)) := rfl
theorem ev_mRetN (env : Env) (_u1 : _) : mRetN env _u1 = (.rt (.d .none) env) := rfl
theorem ev_mNext (env : Env) (_u1 : _) : mNext env _u1 = (.nx env) := rfl
theorem ev_mBrk (env : Env) (_u1 : _) : mBrk env _u1 = (.bk env) := rfl
theorem ev_mCt (env : Env) (_u1 : _) : mCt env _u1 = (.ct env) := rfl
theorem ev_mNever (_u0 : _) (_u1 : _) : mNever _u0 _u1 = (.bad) := rfl
def k_mCall_0 (f : DF) (io : List Bool) (te : List A) : List A → Env → Rs A := fun as e => match cvAs io as e with
  | some L => doCall f e te L
  | none => .bad
theorem ek_mCall_0 (f : DF) (io : List Bool) (te : List A) (as : List A) (e : Env) : k_mCall_0 f io te as e = (match cvAs io as e with
  | some L => doCall f e te L
  | none => .bad : Rs A) := rfl
theorem ev_mCall (f : DF) (io : List Bool) (m : MA) (env : Env) (te : List A) : mCall f io m env te = ((m env te).bind (k_mCall_0 f io te)) := rfl
open Classical in
theorem ev_addA (env : Env) (a : A) (b : A) : addA env a b = (match d2 env a b with
  | some (.int i, .int j) => .ok (.d (.int (i + j))) env
  | some (.str x, .str y) => if x.length + y.length ≤ sizeLine then .ok (.d (.str (x ++ y))) env else .bad
  | some (.tuple xs, .tuple ys) => if xs.length + ys.length ≤ sizeLine then .ok (.d (.tuple (xs ++ ys))) env else .bad
  | some (.list _, .list _) => (match a.lstT? env, b.lstT? env with
    | some xs, some ys => if xs.length + ys.length ≤ sizeLine then .ok (.own (.l (xs ++ ys))) env else .bad
    | _, _ => .bad)
  | _ => .bad) := rfl
open Classical in
theorem ev_mulA (env : Env) (a : A) (b : A) : mulA env a b = (match d2 env a b with
  | some (.int i, .int j) => if CMul i j then .ok (.d (.int (i * j))) env else .bad
  | some (.str x, .int n) => if MulOk x n ∧ (Txt.mul x n).length ≤ sizeLine then .ok (.d (.str (Txt.mul x n))) env else .bad
  | some (.list _, .int n) => (match a.lstT? env with
    | some xs => if -(2 ^ 63) ≤ n ∧ n < 2 ^ 63 ∧ xs.length * n.toNat ≤ sizeLine then .ok (.own (.l (List.replicate n.toNat xs).flatten)) env else .bad
    | none => .bad)
  | _ => .bad) := rfl
def k_mTup_0 : List A → Env → Rs A := fun as e => match dAll as with
  | some xs => if xs.length ≤ sizeLine then .ok (.d (.tuple xs)) e else .bad
  | none => .bad
theorem ek_mTup_0 (as : List A) (e : Env) : k_mTup_0  as e = (match dAll as with
  | some xs => if xs.length ≤ sizeLine then .ok (.d (.tuple xs)) e else .bad
  | none => .bad : Rs A) := rfl
theorem ev_mTup (m : MA) (env : Env) (te : List A) : mTup m env te = ((m env te).bind (k_mTup_0)) := rfl
def k_mLst_0 : List A → Env → Rs A := fun as e => match dAll as with
  | some xs => if xs.length ≤ sizeLine then .ok (.own (.l xs)) e else .bad
  | none => .bad
theorem ek_mLst_0 (as : List A) (e : Env) : k_mLst_0  as e = (match dAll as with
  | some xs => if xs.length ≤ sizeLine then .ok (.own (.l xs)) e else .bad
  | none => .bad : Rs A) := rfl
theorem ev_mLst (m : MA) (env : Env) (te : List A) : mLst m env te = ((m env te).bind (k_mLst_0)) := rfl
theorem ev_ixA (env : Env) (a : A) (b : A) : ixA env a b = (match b.val env with
  | some (.int i) => (match a.tup? with
    | some xs => (match atI xs i with
      | some x => .ok (.d x) env
      | none => .bad)
    | none => match a.lst? env with
      | some xs => (match atI xs i with
        | some x => .ok (.d x) env
        | none => .bad)
      | none => match a.val env with
        | some (.str z) => (match atI z.cps.toList i with
          | some c => .ok (.d (.str ⟨#[c]⟩)) env
          | none => .bad)
        | _ => match a with
          | .rf j none => (match owAt env j with
            | some (.ll xss) => (match ixN xss.length i with
              | some n => .ok (.rf j (some (.inl n))) env
              | none => .bad)
            | _ => .bad)
          | _ => .bad)
  | _ => .bad) := rfl
theorem ev_mNoPart (env : Env) (_u1 : _) : mNoPart env _u1 = (.ok none env) := rfl
def k_mPart_0 : A → Env → Rs (Option Int) := fun a e => match a.val e with
  | some (.int i) => .ok (some i) e
  | _ => .bad
theorem ek_mPart_0 (a : A) (e : Env) : k_mPart_0  a e = (match a.val e with
  | some (.int i) => .ok (some i) e
  | _ => .bad : Rs (Option Int)) := rfl
theorem ev_mPart (m : ME) (env : Env) (te : List A) : mPart m env te = ((m env te).bind (k_mPart_0)) := rfl
def k_mSl_2 (a : A) (l : Option Int) : Option Int → Env → Rs A := fun u e3 => slA e3 a l u
theorem ek_mSl_2 (a : A) (l : Option Int) (u : Option Int) (e3 : Env) : k_mSl_2 a l u e3 = (slA e3 a l u : Rs A) := rfl
def k_mSl_1 (hi : MO) (te : List A) (a : A) : Option Int → Env → Rs A := fun l e2 => (hi e2 (a :: te)).bind (k_mSl_2 a l)
theorem ek_mSl_1 (hi : MO) (te : List A) (a : A) (l : Option Int) (e2 : Env) : k_mSl_1 hi te a l e2 = ((hi e2 (a :: te)).bind (k_mSl_2 a l) : Rs A) := rfl
def k_mSl_0 (lo : MO) (hi : MO) (te : List A) : A → Env → Rs A := fun a e1 => (lo e1 (a :: te)).bind (k_mSl_1 hi te a)
theorem ek_mSl_0 (lo : MO) (hi : MO) (te : List A) (a : A) (e1 : Env) : k_mSl_0 lo hi te a e1 = ((lo e1 (a :: te)).bind (k_mSl_1 hi te a) : Rs A) := rfl
theorem ev_mSl (m : ME) (lo hi : MO) (env : Env) (te : List A) : mSl m lo hi env te = ((m env te).bind (k_mSl_0 lo hi te)) := rfl
theorem ev_one (f : Env → A → Rs A) (env : Env) (as : List A) : one f env as = (match as with
  | [a] => f env a
  | _ => .bad) := rfl
theorem ev_lenA (env : Env) (a : A) : lenA env a = (match a.lst? env with
  | some xs => .ok (.d (.int xs.length)) env
  | none => match a.val env with
    | some x => (match lenD x with
      | some n => .ok (.d (.int n)) env
      | none => .bad)
    | none => .bad) := rfl
theorem ev_tupA (env : Env) (a : A) : tupA env a = (match a with
  | .d (.tuple xs) => .ok (.d (.tuple xs)) env
  | a => match a.lst? env with
    | some xs => .ok (.d (.tuple xs)) env
    | none => .bad) := rfl
theorem ev_lstA (env : Env) (a : A) : lstA env a = (match a.tup? with
  | some xs => .ok (.own (.l xs)) env
  | none => match a.lst? env with
    | some xs => .ok (.own (.l xs)) env
    | none => .bad) := rfl
theorem ev_allA (env : Env) (a : A) : allA env a = (match (a.lst? env).bind boolsD with
  | some bs => .ok (.d (.bool (bs.all id))) env
  | none => .bad) := rfl
theorem ev_anyA (env : Env) (a : A) : anyA env a = (match (a.lst? env).bind boolsD with
  | some bs => .ok (.d (.bool (bs.any id))) env
  | none => .bad) := rfl
def k_mIsi_0 (T : String) : A → Env → Rs A := fun a e => match a.val e with
  | some x => (match kitB (tyD x) T with
    | some b => .ok (.d (.bool b)) e
    | none => .bad)
  | none => .bad
theorem ek_mIsi_0 (T : String) (a : A) (e : Env) : k_mIsi_0 T a e = (match a.val e with
  | some x => (match kitB (tyD x) T with
    | some b => .ok (.d (.bool b)) e
    | none => .bad)
  | none => .bad : Rs A) := rfl
theorem ev_mIsi (T : String) (m : ME) (env : Env) (te : List A) : mIsi T m env te = ((m env te).bind (k_mIsi_0 T)) := rfl
theorem ev_min2A (env : Env) (as : List A) : min2A env as = (match as with
  | [.d (.int i), .d (.int j)] => .ok (.d (.int (if j < i then j else i))) env
  | _ => .bad) := rfl
theorem ev_max2A (env : Env) (as : List A) : max2A env as = (match as with
  | [.d (.int i), .d (.int j)] => .ok (.d (.int (if j > i then j else i))) env
  | _ => .bad) := rfl
def k_mJoin_0 (mb : ME) (te : List A) : A → Env → Rs A := fun a e => match a with
  | .d (.str s) => (mb e (.d (.str s) :: te)).bind fun b e2 => joinS s e2 b
  | _ => .bad
theorem ek_mJoin_0 (mb : ME) (te : List A) (a : A) (e : Env) : k_mJoin_0 mb te a e = (match a with
  | .d (.str s) => (mb e (.d (.str s) :: te)).bind fun b e2 => joinS s e2 b
  | _ => .bad : Rs A) := rfl
theorem ev_mJoin (ma mb : ME) (env : Env) (te : List A) : mJoin ma mb env te = ((ma env te).bind (k_mJoin_0 mb te)) := rfl
def k_mMeth_0 (f : Env → List A → A → List A → Rs A) (ma : MA) (te : List A) : A → Env → Rs A := fun o e1 => if isL e1 o = true then (ma e1 (o :: te)).bind fun as e2 => f e2 te o as else .bad
theorem ek_mMeth_0 (f : Env → List A → A → List A → Rs A) (ma : MA) (te : List A) (o : A) (e1 : Env) : k_mMeth_0 f ma te o e1 = (if isL e1 o = true then (ma e1 (o :: te)).bind fun as e2 => f e2 te o as else .bad : Rs A) := rfl
theorem ev_mMeth (f : Env → List A → A → List A → Rs A) (mo : ME) (ma : MA) (env : Env) (te : List A) : mMeth f mo ma env te = ((mo env te).bind (k_mMeth_0 f ma te)) := rfl
theorem ev_appA (e : Env) (te : List A) (o : A) (as : List A) : appA e te o as = (match dAll as with
  | some [y] => mutL e te o fun xs => if xs.length < sizeLine then some (.none, xs ++ [y]) else none
  | _ => .bad) := rfl
theorem ev_extA (e : Env) (te : List A) (o : A) (as : List A) : extA e te o as = (match dAll as with
  | some [y] => (match seqD y with
    | some zs => mutL e te o fun xs => if xs.length + zs.length ≤ sizeLine then some (.none, xs ++ zs) else none
    | none => .bad)
  | _ => .bad) := rfl
theorem ev_insA (e : Env) (te : List A) (o : A) (as : List A) : insA e te o as = (match dAll as with
  | some [.int i, y] => mutL e te o fun xs => if xs.length < sizeLine ∧ 0 ≤ i ∧ i < 2 ^ 63 then some (.none, xs.take i.toNat ++ [y] ++ xs.drop i.toNat) else none
  | _ => .bad) := rfl
theorem ev_popA (e : Env) (te : List A) (o : A) (as : List A) : popA e te o as = (match as with
  | [] => mutL e te o fun xs => match xs[xs.length - 1]? with
    | some y => some (y, xs.dropLast)
    | none => none
  | _ => .bad) := rfl
theorem ev_popAtA (e : Env) (te : List A) (o : A) (as : List A) : popAtA e te o as = (match dAll as with
  | some [.int i] => mutL e te o fun xs => if -(2 ^ 63) ≤ i ∧ i < 2 ^ 63 then (match seqIndex? i xs.length with
    | some k => (match xs[k]? with
      | some y => some (y, xs.eraseIdx k)
      | none => none)
    | none => none) else none
  | _ => .bad) := rfl
def k_mTix_0 (mb : ME) (te : List A) : A → Env → Rs A := fun a e1 => match a with
  | .d (.tuple xs) => (mb e1 (a :: te)).bind fun b e2 => tixA e2 a b
  | _ => .bad
theorem ek_mTix_0 (mb : ME) (te : List A) (a : A) (e1 : Env) : k_mTix_0 mb te a e1 = (match a with
  | .d (.tuple xs) => (mb e1 (a :: te)).bind fun b e2 => tixA e2 a b
  | _ => .bad : Rs A) := rfl
theorem ev_mTix (ma mb : ME) (env : Env) (te : List A) : mTix ma mb env te = ((ma env te).bind (k_mTix_0 mb te)) := rfl
def k_mSetL_2 (te : List A) (a : A) (e : Env) (o : A) : A → Env → Fl := fun b e2 => match setLA e2 te o b a with
  | some e' => .nx e'
  | none => .bad
theorem ek_mSetL_2 (te : List A) (a : A) (e : Env) (o : A) (b : A) (e2 : Env) : k_mSetL_2 te a e o b e2 = (match setLA e2 te o b a with
  | some e' => .nx e'
  | none => .bad : Fl) := rfl
def k_mSetL_1 (mi : ME) (te : List A) (a : A) (e : Env) : A → Env → Fl := fun o e1 => (mi e1 (o :: a :: te)).fl (k_mSetL_2 te a e o)
theorem ek_mSetL_1 (mi : ME) (te : List A) (a : A) (e : Env) (o : A) (e1 : Env) : k_mSetL_1 mi te a e o e1 = ((mi e1 (o :: a :: te)).fl (k_mSetL_2 te a e o) : Fl) := rfl
def k_mSetL_0 (mo : ME) (mi : ME) (te : List A) : A → Env → Fl := fun a e => (mo e (a :: te)).fl (k_mSetL_1 mi te a e)
theorem ek_mSetL_0 (mo : ME) (mi : ME) (te : List A) (a : A) (e : Env) : k_mSetL_0 mo mi te a e = ((mo e (a :: te)).fl (k_mSetL_1 mi te a e) : Fl) := rfl
theorem ev_mSetL (mv mo mi : ME) (env : Env) (te : List A) : mSetL mv mo mi env te = ((mv env te).fl (k_mSetL_0 mo mi te)) := rfl
def k_mSeqI_0 (env : Env) : A → Env → Rs (List A × (Env → Option (List Dt))) := fun a e => match a.seq? e with
  | some _ => .ok ([a], fun env => a.seq? env) e
  | none => .bad
theorem ek_mSeqI_0 (env : Env) (a : A) (e : Env) : k_mSeqI_0 env a e = (match a.seq? e with
  | some _ => .ok ([a], fun env => a.seq? env) e
  | none => .bad : Rs (List A × (Env → Option (List Dt)))) := rfl
theorem ev_mSeqI (m : ME) (env : Env) (te : List A) : mSeqI m env te = (((m env te).bind (k_mSeqI_0 env) : Rs (List A × (Env → Option (List Dt))))) := rfl
def k_mRng1_0 : A → Env → Rs (List A × (Env → Option (List Dt))) := fun a e => match a with
  | .d (.int j) => if -(2 ^ 62) ≤ j ∧ j < 2 ^ 62 then .ok ([], fun _ => some (intsD 0 j.toNat)) e else .bad
  | _ => .bad
theorem ek_mRng1_0 (a : A) (e : Env) : k_mRng1_0  a e = (match a with
  | .d (.int j) => if -(2 ^ 62) ≤ j ∧ j < 2 ^ 62 then .ok ([], fun _ => some (intsD 0 j.toNat)) e else .bad
  | _ => .bad : Rs (List A × (Env → Option (List Dt)))) := rfl
theorem ev_mRng1 (m : ME) (env : Env) (te : List A) : mRng1 m env te = (((m env te).bind (k_mRng1_0) : Rs (List A × (Env → Option (List Dt))))) := rfl
def k_mRng2_1 (a : A) : A → Env → Rs (List A × (Env → Option (List Dt))) := fun b e2 => match a, b with
  | .d (.int i), .d (.int j) => if -(2 ^ 62) ≤ i ∧ i < 2 ^ 62 ∧ -(2 ^ 62) ≤ j ∧ j < 2 ^ 62 then .ok ([], fun _ => some (intsD i (j - i).toNat)) e2 else .bad
  | _, _ => .bad
theorem ek_mRng2_1 (a : A) (b : A) (e2 : Env) : k_mRng2_1 a b e2 = (match a, b with
  | .d (.int i), .d (.int j) => if -(2 ^ 62) ≤ i ∧ i < 2 ^ 62 ∧ -(2 ^ 62) ≤ j ∧ j < 2 ^ 62 then .ok ([], fun _ => some (intsD i (j - i).toNat)) e2 else .bad
  | _, _ => .bad : Rs (List A × (Env → Option (List Dt)))) := rfl
def k_mRng2_0 (mb : ME) (te : List A) : A → Env → Rs (List A × (Env → Option (List Dt))) := fun a e => (mb e (a :: te)).bind (k_mRng2_1 a)
theorem ek_mRng2_0 (mb : ME) (te : List A) (a : A) (e : Env) : k_mRng2_0 mb te a e = ((mb e (a :: te)).bind (k_mRng2_1 a) : Rs (List A × (Env → Option (List Dt)))) := rfl
theorem ev_mRng2 (ma mb : ME) (env : Env) (te : List A) : mRng2 ma mb env te = (((ma env te).bind (k_mRng2_0 mb te) : Rs (List A × (Env → Option (List Dt))))) := rfl
def k_mEnT_0 : A → Env → Rs (List A × (Env → Option (List Dt))) := fun a e => match a.tup? with
  | some xs => .ok ([a], fun _ => some (enumD xs)) e
  | none => .bad
theorem ek_mEnT_0 (a : A) (e : Env) : k_mEnT_0  a e = (match a.tup? with
  | some xs => .ok ([a], fun _ => some (enumD xs)) e
  | none => .bad : Rs (List A × (Env → Option (List Dt)))) := rfl
theorem ev_mEnT (m : ME) (env : Env) (te : List A) : mEnT m env te = (((m env te).bind (k_mEnT_0) : Rs (List A × (Env → Option (List Dt))))) := rfl
def k_mEnL_0 (env : Env) : A → Env → Rs (List A × (Env → Option (List Dt))) := fun a e => match a.lst? e with
  | some xs => .ok ([a], fun env => (a.lst? env).map enumD) e
  | none => .bad
theorem ek_mEnL_0 (env : Env) (a : A) (e : Env) : k_mEnL_0 env a e = (match a.lst? e with
  | some xs => .ok ([a], fun env => (a.lst? env).map enumD) e
  | none => .bad : Rs (List A × (Env → Option (List Dt)))) := rfl
theorem ev_mEnL (m : ME) (env : Env) (te : List A) : mEnL m env te = (((m env te).bind (k_mEnL_0 env) : Rs (List A × (Env → Option (List Dt))))) := rfl
theorem ev_mPure (m : ME) (env : Env) (_u1 : _) : mPure m env _u1 = (match m (viewE env) [] with
  | .ok (.d x) _ => if tupD x = true then .ok (.d x) env else .bad
  | .ok (.own o) _ => if o.tup = true then .ok (.own o) env else .bad
  | _ => .bad) := rfl
theorem ev_mPureK (j : Nat) (m : ME) (env : Env) (te : List A) : mPureK j m env te = (if isDict env j = true then mPure m env te else .bad) := rfl
theorem ev_mPureL (j : Nat) (m : ME) (env : Env) (_u1 : _) : mPureL j m env _u1 = (if isDict env j = true then (match m (viewK env j) [] with
  | .ok (.d x) _ => if tupD x = true then .ok (.d x) env else .bad
  | .ok (.own o) _ => if o.tup = true then .ok (.own o) env else .bad
  | _ => .bad) else .bad) := rfl
theorem ev_mKI (j : Nat) (env : Env) (te : List A) : mKI j env te = ((match env[j]? with
  | some (some (.lk kvs)) => if (kvs.all fun q => flatD q.1) = true then .ok ([.lk kvs], fun _ => some (kvs.map (·.1))) env else .bad
  | _ => .bad : Rs (List A × (Env → Option (List Dt))))) := rfl
def k_mDGet2_0 (mk : ME) (mx : ME) (te : List A) : A → Env → Rs A := fun a e1 => if isDct e1 a = true then (mk e1 (a :: te)).bind fun b e2 => (mx e2 (b :: a :: te)).bind fun c e3 => (match (b.val e3).bind keyD, c with
    | some k, .d y => (match dgO e3 a k with
      | some (.dt x) => .ok (.d x) e3
      | some .no => .ok (.d y) e3
      | _ => .bad)
    | _, _ => .bad) else .bad
theorem ek_mDGet2_0 (mk : ME) (mx : ME) (te : List A) (a : A) (e1 : Env) : k_mDGet2_0 mk mx te a e1 = (if isDct e1 a = true then (mk e1 (a :: te)).bind fun b e2 => (mx e2 (b :: a :: te)).bind fun c e3 => (match (b.val e3).bind keyD, c with
    | some k, .d y => (match dgO e3 a k with
      | some (.dt x) => .ok (.d x) e3
      | some .no => .ok (.d y) e3
      | _ => .bad)
    | _, _ => .bad) else .bad : Rs A) := rfl
theorem ev_mDGet2 (md mk mx : ME) (env : Env) (te : List A) : mDGet2 md mk mx env te = ((md env te).bind (k_mDGet2_0 mk mx te)) := rfl
def k_mPut_2 (te : List A) (c : A) (e : Env) (a : A) : A → Env → Fl := fun b e2 => match putA e2 te a b c with
  | some e' => .nx e'
  | none => .bad
theorem ek_mPut_2 (te : List A) (c : A) (e : Env) (a : A) (b : A) (e2 : Env) : k_mPut_2 te c e a b e2 = (match putA e2 te a b c with
  | some e' => .nx e'
  | none => .bad : Fl) := rfl
def k_mPut_1 (mk : ME) (te : List A) (c : A) (e : Env) : A → Env → Fl := fun a e1 => (mk e1 (a :: c :: te)).fl (k_mPut_2 te c e a)
theorem ek_mPut_1 (mk : ME) (te : List A) (c : A) (e : Env) (a : A) (e1 : Env) : k_mPut_1 mk te c e a e1 = ((mk e1 (a :: c :: te)).fl (k_mPut_2 te c e a) : Fl) := rfl
def k_mPut_0 (md : ME) (mk : ME) (te : List A) : A → Env → Fl := fun c e => (md e (c :: te)).fl (k_mPut_1 mk te c e)
theorem ek_mPut_0 (md : ME) (mk : ME) (te : List A) (c : A) (e : Env) : k_mPut_0 md mk te c e = ((md e (c :: te)).fl (k_mPut_1 mk te c e) : Fl) := rfl
theorem ev_mPut (mv md mk : ME) (env : Env) (te : List A) : mPut mv md mk env te = ((mv env te).fl (k_mPut_0 md mk te)) := rfl
theorem ev_appLA (e : Env) (te : List A) (o : A) (as : List A) : appLA e te o as = (match as, o with
  | [.own (.l ys)], .rf i none => (match e[i]?, owAt e i with
    | some (some ca), some (.ll xss) => if xss.length < sizeLine ∧ anyC (isNest i) e te = false then .ok (.d .none) (e.set i (some (reOw ca (.ll (xss ++ [ys]))))) else .bad
    | _, _ => .bad)
  | _, _ => .bad) := rfl
theorem ev_popLA (e : Env) (te : List A) (o : A) (as : List A) : popLA e te o as = (match as, o with
  | [], .rf i none => (match e[i]?, owAt e i with
    | some (some ca), some (.ll xss) => (match xss[xss.length - 1]? with
      | some ys => if anyC (isNest i) e te = false then .ok (.d (.list ys)) (e.set i (some (reOw ca (.ll xss.dropLast)))) else .bad
      | none => .bad)
    | _, _ => .bad)
  | _, _ => .bad) := rfl
theorem ev_orM (f g : Env → List A → A → List A → Rs A) (e : Env) (te : List A) (o : A) (as : List A) : orM f g e te o as = (match f e te o as with
  | .bad => g e te o as
  | r => r) := rfl
theorem ev_mNest (env : Env) (_u1 : _) : mNest env _u1 = (.ok (.own (.ll [[]])) env) := rfl
def k_mDisp1_1 (a : A) : A → Env → Rs A := fun b e2 => match a, b with
  | .d kd, .own (.l ys) => (match keyD kd with
    | some k => .ok (.own (.dl [(k, ys)])) e2
    | none => .bad)
  | _, _ => .bad
theorem ek_mDisp1_1 (a : A) (b : A) (e2 : Env) : k_mDisp1_1 a b e2 = (match a, b with
  | .d kd, .own (.l ys) => (match keyD kd with
    | some k => .ok (.own (.dl [(k, ys)])) e2
    | none => .bad)
  | _, _ => .bad : Rs A) := rfl
def k_mDisp1_0 (mv : ME) (te : List A) : A → Env → Rs A := fun a e1 => (mv e1 (a :: .own (.dc []) :: te)).bind (k_mDisp1_1 a)
theorem ek_mDisp1_0 (mv : ME) (te : List A) (a : A) (e1 : Env) : k_mDisp1_0 mv te a e1 = ((mv e1 (a :: .own (.dc []) :: te)).bind (k_mDisp1_1 a) : Rs A) := rfl
theorem ev_mDisp1 (mk mv : ME) (env : Env) (te : List A) : mDisp1 mk mv env te = ((mk env (.own (.dc []) :: te)).bind (k_mDisp1_0 mv te)) := rfl
def k_mPar_0 (i : Nat) (j : Nat) (te : List A) : List A → Env → Fl := fun as e => match as with
  | [a, b] => (match gN j b e (a :: te) with
    | some e1 => (match gN i a e1 te with
      | some e2 => .nx e2
      | none => .bad)
    | none => .bad)
  | _ => .bad
theorem ek_mPar_0 (i : Nat) (j : Nat) (te : List A) (as : List A) (e : Env) : k_mPar_0 i j te as e = (match as with
  | [a, b] => (match gN j b e (a :: te) with
    | some e1 => (match gN i a e1 te with
      | some e2 => .nx e2
      | none => .bad)
    | none => .bad)
  | _ => .bad : Fl) := rfl
theorem ev_mPar (i j : Nat) (m : MA) (env : Env) (te : List A) : mPar i j m env te = ((m env te).fl (k_mPar_0 i j te)) := rfl
def k_mPar3_0 (i : Nat) (j : Nat) (l : Nat) (te : List A) : List A → Env → Fl := fun as e => match as with
  | [a, b, c] => (match gN l c e (b :: a :: te) with
    | some e0 => (match gN j b e0 (a :: te) with
      | some e1 => (match gN i a e1 te with
        | some e2 => .nx e2
        | none => .bad)
      | none => .bad)
    | none => .bad)
  | _ => .bad
theorem ek_mPar3_0 (i : Nat) (j : Nat) (l : Nat) (te : List A) (as : List A) (e : Env) : k_mPar3_0 i j l te as e = (match as with
  | [a, b, c] => (match gN l c e (b :: a :: te) with
    | some e0 => (match gN j b e0 (a :: te) with
      | some e1 => (match gN i a e1 te with
        | some e2 => .nx e2
        | none => .bad)
      | none => .bad)
    | none => .bad)
  | _ => .bad : Fl) := rfl
theorem ev_mPar3 (i j l : Nat) (m : MA) (env : Env) (te : List A) : mPar3 i j l m env te = ((m env te).fl (k_mPar3_0 i j l te)) := rfl
def k_mChain_1 (g1 : Dt → Dt → Option Dt) (g2 : Dt → Dt → Option Dt) (mc : ME) (te : List A) (a : A) : A → Env → Rs A := fun b e2 => match (match a.val e2, b.val e2 with | some x, some y => g1 x y | _, _ => none) with
  | some (.bool true) => if isIo b = true then .bad else (mc e2 (b :: te)).bind fun c e4 => fl2 g2 e4 b c
  | some (.bool false) => .ok (.d (.bool false)) e2
  | _ => .bad
theorem ek_mChain_1 (g1 : Dt → Dt → Option Dt) (g2 : Dt → Dt → Option Dt) (mc : ME) (te : List A) (a : A) (b : A) (e2 : Env) : k_mChain_1 g1 g2 mc te a b e2 = (match (match a.val e2, b.val e2 with | some x, some y => g1 x y | _, _ => none) with
  | some (.bool true) => if isIo b = true then .bad else (mc e2 (b :: te)).bind fun c e4 => fl2 g2 e4 b c
  | some (.bool false) => .ok (.d (.bool false)) e2
  | _ => .bad : Rs A) := rfl
def k_mChain_0 (g1 : Dt → Dt → Option Dt) (g2 : Dt → Dt → Option Dt) (mb : ME) (mc : ME) (te : List A) : A → Env → Rs A := fun a e1 => (mb e1 (a :: te)).bind (k_mChain_1 g1 g2 mc te a)
theorem ek_mChain_0 (g1 : Dt → Dt → Option Dt) (g2 : Dt → Dt → Option Dt) (mb : ME) (mc : ME) (te : List A) (a : A) (e1 : Env) : k_mChain_0 g1 g2 mb mc te a e1 = ((mb e1 (a :: te)).bind (k_mChain_1 g1 g2 mc te a) : Rs A) := rfl
theorem ev_mChain (g1 g2 : Dt → Dt → Option Dt) (ma mb mc : ME) (env : Env) (te : List A) : mChain g1 g2 ma mb mc env te = ((ma env te).bind (k_mChain_0 g1 g2 mb mc te)) := rfl
theorem ev_mDnew (env : Env) (_u1 : _) : mDnew env _u1 = (.ok (.own (.dc [])) env) := rfl
theorem ev_gL (is : List Nat) (a : A) (env : Env) (te : List A) : gL is a env te = (match a.lst? env with
  | some xs => gTs is xs env te
  | none => none) := rfl

theorem zq00 {α β : Type} (a : α) (e : Env) (f : α → Env → Rs β) : Rs.bind (.ok a e) f = f a e := rfl
theorem ev_fl_ok {α : Type} (a : α) (e : Env) (f : α → Env → Fl) : Rs.fl (.ok a e) f = f a e := rfl
theorem ev_th_nx (e : Env) (f : Env → Fl) : Fl.th (.nx e) f = f e := rfl
theorem ev_th_rt (a : A) (e : Env) (f : Env → Fl) : Fl.th (.rt a e) f = .rt a e := rfl
theorem ev_lp_nx (e : Env) (f : Env → Fl) : Fl.lp (.nx e) f = f e := rfl
theorem ev_lp_rt (a : A) (e : Env) (f : Env → Fl) : Fl.lp (.rt a e) f = .rt a e := rfl
theorem ev_noXf (f : DF) (as : List A) : noXf f as = (f as).noX := rfl
/-- what holds at the end of a block -/
inductive FP (N : Env → Prop) (R : A → Env → Prop) : Fl → Prop
  | nx {e : Env} (h : N e) : FP N R (.nx e)
  | rt {a : A} {e : Env} (h : R a e) : FP N R (.rt a e)
def Sq (n : MS) (te : List A) (N : Env → Prop) (R : A → Env → Prop) (e : Env) : Prop := FP N R (n e te)
theorem fp_nx (N : Env → Prop) (R : A → Env → Prop) (e : Env) : FP N R (.nx e) = N e := propext ⟨fun h => by cases h; assumption, .nx⟩
theorem fp_rt (N : Env → Prop) (R : A → Env → Prop) (a : A) (e : Env) : FP N R (.rt a e) = R a e := propext ⟨fun h => by cases h; assumption, .rt⟩
theorem fp_seq (N : Env → Prop) (R : A → Env → Prop) (m n : MS) (env : Env) (te : List A) : FP N R (mSeq m n env te) = FP (Sq n te N R) R (m env te) := by
  show FP N R ((m env te).th fun e => n e te) = _
  cases m env te with
  | nx e => rw [fp_nx]; rfl
  | rt a e => rw [fp_rt]; exact fp_rt _ _ _ _
  | _ => exact propext ⟨(fun h => nomatch h), (fun h => nomatch h)⟩
theorem sq_ap (n : MS) (te : List A) (N : Env → Prop) (R : A → Env → Prop) (e : Env) : Sq n te N R e = FP N R (n e te) := rfl
/-- what a def gives -/
inductive DOk (Q : A → List A → Prop) : DRs → Prop
  | ok {a : A} {ios : List A} (h : Q a ios) : DOk Q (.ok a ios)
def EndR (as : List A) (Q : A → List A → Prop) (a : A) (e : Env) : Prop := ∃ r, retA e a = some r ∧ Q r (backs as e)
def EndN (as : List A) (Q : A → List A → Prop) (e : Env) : Prop := Q (.d .none) (backs as e)
theorem run_ok {n : Nat} {m : MS} {as : List A} {Q : A → List A → Prop} (h : FP (EndN as Q) (EndR as Q) (m (as.map some ++ List.replicate (n - as.length) none) [])) : DOk Q (runM n m as) := by
  show DOk Q (endM as (m (as.map some ++ List.replicate (n - as.length) none) []))
  cases e : m (as.map some ++ List.replicate (n - as.length) none) [] with
  | nx e' => rw [e, fp_nx] at h; exact .ok h
  | rt a e' =>
    rw [e, fp_rt] at h
    obtain ⟨r, h1, h2⟩ := h
    show DOk Q (match retA e' a with | some r => .ok r (backs as e') | none => .bad)
    rw [h1]
    exact .ok h2
  | bk e' => rw [e] at h; exact nomatch h
  | ct e' => rw [e] at h; exact nomatch h
  | ex x e' => rw [e] at h; exact nomatch h
  | bad => rw [e] at h; exact nomatch h
theorem DOk.ex {Q : A → List A → Prop} {r : DRs} (h : DOk Q r) : ∃ a ios, r = .ok a ios ∧ Q a ios := by
  cases h with
  | ok h => exact ⟨_, _, rfl, h⟩
theorem fp_for {N : Env → Prop} {R : A → Env → Prop} {kd : Dt → A} {mi : MI} {g : MG} {body : MS} {env e : Env} {te as : List A} {rd : Env → Option (List Dt)} {xs : List Dt} (I : List Dt → Env → Prop) (hm : mi env te = .ok (as, rd) e) (h0 : I xs e) (hr : ∀ r e, I r e → rd e = some xs)
    (step : ∀ x r e, I (x :: r) e → ∃ e1, g (kd x) e (as ++ te) = some e1 ∧ FP (I r) R (body e1 (as ++ te))) (fin : ∀ e, I [] e → N e) : FP N R (mFor kd mi g body env te) := by
  show FP N R ((mi env te).fl _)
  rw [hm]
  show FP N R (match rd e with | some xs => forM kd rd xs (as ++ te) g body xs e | none => .bad)
  rw [hr _ _ h0]
  show FP N R (forM kd rd xs (as ++ te) g body xs e)
  have key : ∀ r e, I r e → FP N R (forM kd rd xs (as ++ te) g body r e) := by
    intro r
    induction r with
    | nil =>
      intro e h
      unfold forM
      rw [if_pos (hr _ _ h)]
      exact .nx (fin e h)
    | cons x r ih =>
      intro e h
      obtain ⟨e1, h1, h2⟩ := step x r e h
      unfold forM
      rw [if_pos (hr _ _ h), h1]
      show FP N R ((body e1 (as ++ te)).lp _)
      cases eb : body e1 (as ++ te) with
      | nx e2 => rw [eb, fp_nx] at h2; exact ih e2 h2
      | rt a e2 => rw [eb, fp_rt] at h2; exact .rt h2
      | bk e2 => rw [eb] at h2; exact nomatch h2
      | ct e2 => rw [eb] at h2; exact nomatch h2
      | ex x e2 => rw [eb] at h2; exact nomatch h2
      | bad => rw [eb] at h2; exact nomatch h2
  exact key xs e h0
theorem fp_while {N : Env → Prop} {R : A → Env → Prop} {c : MT} {b : MS} {env : Env} {te : List A} (I : Env → Prop) (μ : Env → Nat) (h0 : I env)
    (step : ∀ e, I e → ∃ x e1, c e te = .ok x e1 ∧ (x = true → FP (fun e2 => I e2 ∧ μ e2 < μ e) R (b e1 te)) ∧ (x = false → N e1)) : FP N R (mWhile c b env te) := by
  have key : ∀ n e, μ e < n → I e → FP N R (mWhile c b e te) := by
    intro n
    induction n with
    | zero => exact fun e h => absurd h (Nat.not_lt_zero _)
    | succ n ih =>
      intro e hn h
      obtain ⟨x, e1, h1, ht, hf⟩ := step e h
      rw [mWhile_eq, h1]
      show FP N R (if x = true then _ else _)
      cases x with
      | false => exact .nx (hf rfl)
      | true =>
        rw [if_pos rfl]
        have h2 := ht rfl
        cases eb : b e1 te with
        | nx e2 => rw [eb, fp_nx] at h2; exact ih e2 (by have := h2.2; omega) h2.1
        | rt a e2 => rw [eb, fp_rt] at h2; exact .rt h2
        | bk e2 => rw [eb] at h2; exact nomatch h2
        | ct e2 => rw [eb] at h2; exact nomatch h2
        | ex x e2 => rw [eb] at h2; exact nomatch h2
        | bad => rw [eb] at h2; exact nomatch h2
  exact key _ env (Nat.lt_succ_self _) h0
theorem lc_ok {kd : Dt → A} {mi : MI} {g : MG} {tt : MT} {el : ME} {vs : List Nat} {env e : Env} {te as : List A} {rd : Env → Option (List Dt)} {xs : List Dt} (I : List Dt → List Dt → Env → Prop) (hm : mi env te = .ok (as, rd) e) (hw : wipeOk e (.own (.l []) :: (as ++ te)) vs = true) (h0 : I xs [] (wipeE e vs)) (hr : ∀ r acc e, I r acc e → rd e = some xs)
    (step : ∀ x r acc e, I (x :: r) acc e → ∃ e1, g (kd x) e (.own (.l acc) :: (as ++ te)) = some e1 ∧ ∃ b e2, tt e1 (.own (.l acc) :: (as ++ te)) = .ok b e2 ∧
      (b = true → ∃ y e3, el e2 (.own (.l acc) :: (as ++ te)) = .ok (.d y) e3 ∧ acc.length < sizeLine ∧ wipeOk e3 (.own (.l (acc ++ [y])) :: (as ++ te)) vs = true ∧ I r (acc ++ [y]) (wipeE e3 vs)) ∧
      (b = false → wipeOk e2 (.own (.l acc) :: (as ++ te)) vs = true ∧ I r acc (wipeE e2 vs))) : ∃ ys e', mLc kd mi g tt el vs env te = .ok (.own (.l ys)) e' ∧ I [] ys e' := by
  obtain ⟨ys, e', h1, h2⟩ := lcM_inv (te := as ++ te) I hr step _ _ _ h0
  refine ⟨ys, e', ?_, h2⟩
  show ((mi env te).bind _) = _
  rw [hm]
  show (match rd (wipeE e vs) with | some xs => if wipeOk e (.own (.l []) :: (as ++ te)) vs = true then (lcM kd rd xs (as ++ te) g tt el vs xs [] (wipeE e vs)).bind fun ys e2 => Rs.ok (A.own (.l ys)) e2 else .bad | none => .bad) = _
  rw [hr _ _ _ h0]
  show (if wipeOk e (.own (.l []) :: (as ++ te)) vs = true then (lcM kd rd xs (as ++ te) g tt el vs xs [] (wipeE e vs)).bind fun ys e2 => Rs.ok (A.own (.l ys)) e2 else .bad) = _
  rw [if_pos hw, h1]
  rfl
theorem lc_okr {kd : Dt → A} {mi : MI} {g : MG} {tt : MT} {el : ME} {vs : List Nat} {env e : Env} {te as : List A} {rd : Env → Option (List Dt)} {xs : List Dt} {r0 : Rs A} (hl : mLc kd mi g tt el vs env te = r0) (I : List Dt → List Dt → Env → Prop) (hm : mi env te = .ok (as, rd) e) (hw : wipeOk e (.own (.l []) :: (as ++ te)) vs = true) (h0 : I xs [] (wipeE e vs)) (hr : ∀ r acc e, I r acc e → rd e = some xs)
    (step : ∀ x r acc e, I (x :: r) acc e → ∃ e1, g (kd x) e (.own (.l acc) :: (as ++ te)) = some e1 ∧ ∃ b e2, tt e1 (.own (.l acc) :: (as ++ te)) = .ok b e2 ∧
      (b = true → ∃ y e3, el e2 (.own (.l acc) :: (as ++ te)) = .ok (.d y) e3 ∧ acc.length < sizeLine ∧ wipeOk e3 (.own (.l (acc ++ [y])) :: (as ++ te)) vs = true ∧ I r (acc ++ [y]) (wipeE e3 vs)) ∧
      (b = false → wipeOk e2 (.own (.l acc) :: (as ++ te)) vs = true ∧ I r acc (wipeE e2 vs))) : ∃ ys e', r0 = .ok (.own (.l ys)) e' ∧ I [] ys e' := by
  rw [← hl]
  exact lc_ok I hm hw h0 hr step
end Tw

namespace Tw
open PySem PySem.Spec PyProof.Rows L2
/-! ### blocks, statement by statement -/
theorem FP.st {N : Env → Prop} {R : A → Env → Prop} {m n : MS} {env e : Env} {te : List A} (h : m env te = .nx e) (k : FP N R (n e te)) : FP N R (mSeq m n env te) := by
  rw [fp_seq, h]
  exact .nx k
theorem FP.sq {N : Env → Prop} {R : A → Env → Prop} {m n : MS} {env : Env} {te : List A} (k : FP (fun e => FP N R (n e te)) R (m env te)) : FP N R (mSeq m n env te) := by
  rw [fp_seq]
  exact k
theorem FP.en {N : Env → Prop} {R : A → Env → Prop} {m : MS} {env e : Env} {te : List A} (h : m env te = .nx e) (k : N e) : FP N R (m env te) := by
  rw [h]
  exact .nx k
theorem FP.re {N : Env → Prop} {R : A → Env → Prop} {m : ME} {env e : Env} {te : List A} {a : A} (h : m env te = .ok a e) (k : R a e) : FP N R (mRet m env te) := by
  show FP N R ((m env te).fl _)
  rw [h]
  exact .rt k
theorem FP.imp {N N' : Env → Prop} {R R' : A → Env → Prop} {f : Fl} (h : FP N R f) (hn : ∀ e, N e → N' e) (hr : ∀ a e, R a e → R' a e) : FP N' R' f := by
  cases h with
  | nx h => exact .nx (hn _ h)
  | rt h => exact .rt (hr _ _ h)
/-- a comprehension that neither draws nor changes anything -/
theorem lc_pureE {kd : Dt → A} {mi : MI} {g : MG} {tt : MT} {el : ME} {vs : List Nat} {env e : Env} {te as : List A} {rd : Env → Option (List Dt)} {xs : List Dt} (p : Dt → Bool) (f : Dt → Dt) (hm : mi env te = .ok (as, rd) e) (hr : rd e = some xs) (hl : xs.length ≤ 100000) (hw : wipeOk e (.own (.l []) :: (as ++ te)) vs = true) (hwe : wipeE e vs = e)
    (step : ∀ x ∈ xs, ∀ acc : List Dt, ∃ e1, g (kd x) e (.own (.l acc) :: (as ++ te)) = some e1 ∧ tt e1 (.own (.l acc) :: (as ++ te)) = .ok (p x) e1 ∧ (p x = true → el e1 (.own (.l acc) :: (as ++ te)) = .ok (.d (f x)) e1) ∧ (∀ acc' : List Dt, wipeOk e1 (.own (.l acc') :: (as ++ te)) vs = true) ∧ wipeE e1 vs = e) :
    mLc kd mi g tt el vs env te = .ok (.own (.l ((xs.filter p).map f))) e := by
  obtain ⟨ys, e', h1, done, h2, rfl, rfl⟩ := lc_ok (kd := kd) (mi := mi) (g := g) (tt := tt) (el := el) (vs := vs) (env := env) (te := te) (as := as) (rd := rd) (xs := xs) (e := e) (fun r acc e' => ∃ done, xs = done ++ r ∧ acc = (done.filter p).map f ∧ e' = e) hm hw ⟨[], rfl, rfl, hwe⟩ (by rintro r acc e ⟨_, _, _, rfl⟩; exact hr) (by
    rintro x r acc e' ⟨done, h1, h2, rfl⟩
    obtain ⟨e1, q1, q2, q3, q4, q5⟩ := step x (by rw [h1]; exact List.mem_append_right _ List.mem_cons_self) acc
    refine ⟨e1, q1, p x, e1, q2, fun hb => ⟨f x, e1, q3 hb, ?_, q4 _, done ++ [x], by rw [h1]; simp, ?_, q5⟩, fun hb => ⟨q4 _, done ++ [x], by rw [h1]; simp, ?_, q5⟩⟩
    · have e1 : xs.length = done.length + (r.length + 1) := by rw [h1, List.length_append, List.length_cons]
      have e2 := List.length_filter_le p done
      have e3 : acc.length = (done.filter p).length := by rw [h2, List.length_map]
      refine big' ?_
      omega
    · rw [h2, List.filter_append, List.filter_cons, if_pos hb, List.map_append]
      rfl
    · rw [h2, List.filter_append, List.filter_cons, if_neg (by rw [hb]; exact Bool.false_ne_true), List.map_append]
      simp)
  rw [h1, h2, List.append_nil]
theorem lc_pure {kd : Dt → A} {mi : MI} {g : MG} {tt : MT} {el : ME} {vs : List Nat} {e : Env} {te as : List A} {rd : Env → Option (List Dt)} {xs : List Dt} (p : Dt → Bool) (f : Dt → Dt) (hm : mi e te = .ok (as, rd) e) (hr : rd e = some xs) (hl : xs.length ≤ 100000) (hw : wipeOk e (.own (.l []) :: (as ++ te)) vs = true) (hwe : wipeE e vs = e)
    (step : ∀ x ∈ xs, ∀ acc : List Dt, ∃ e1, g (kd x) e (.own (.l acc) :: (as ++ te)) = some e1 ∧ tt e1 (.own (.l acc) :: (as ++ te)) = .ok (p x) e1 ∧ (p x = true → el e1 (.own (.l acc) :: (as ++ te)) = .ok (.d (f x)) e1) ∧ (∀ acc' : List Dt, wipeOk e1 (.own (.l acc') :: (as ++ te)) vs = true) ∧ wipeE e1 vs = e) :
    mLc kd mi g tt el vs e te = .ok (.own (.l ((xs.filter p).map f))) e := lc_pureE p f hm hr hl hw hwe step
/-- a def whose result is told -/
theorem ok_of {f : DF} {as ios : List A} {r : A} (h : DOk (fun a i => a = r ∧ i = ios) (f as)) : f as = .ok r ios := by
  obtain ⟨a, i, e, rfl, rfl⟩ := h.ex
  exact e
/-! ### cells that hold a datum or nothing -/
def od : Option Dt → Option A
  | none => none
  | some x => some (.d x)
theorem od_none : od none = none := rfl
theorem od_some (x : Dt) : od (some x) = some (.d x) := rfl
def cB (f : A → Bool) : Option A → Bool
  | some a => f a
  | none => false
theorem inE_nil (f : A → Bool) : inE f [] = false := rfl
theorem inE_cons (f : A → Bool) (c : Option A) (e : Env) : inE f (c :: e) = (cB f c || inE f e) := by
  cases c <;> rfl
theorem cB_some (f : A → Bool) (a : A) : cB f (some a) = f a := rfl
theorem cB_none (f : A → Bool) : cB f none = false := rfl
theorem cB_od_rf (i : Nat) (o : Option Dt) : cB (isRf i) (od o) = false := by cases o <;> rfl
theorem cB_od_nest (i : Nat) (o : Option Dt) : cB (isNest i) (od o) = false := by cases o <;> rfl
theorem cB_od_nestK (i : Nat) (k : Key) (o : Option Dt) : cB (isNestK i k) (od o) = false := by cases o <;> rfl
def nIo : Option (Option A) → Bool
  | some (some (.io _)) => false
  | _ => true
theorem nIo0 : nIo none = true := rfl
theorem nIo1 : nIo (some none) = true := rfl
theorem nIo_d (x : Dt) : nIo (some (some (.d x))) = true := rfl
theorem nIo_own (o : Ow) : nIo (some (some (.own o))) = true := rfl
theorem nIo_io (o : Ow) : nIo (some (some (.io o))) = false := rfl
theorem nIo_rf (i : Nat) (p : Option Key) : nIo (some (some (.rf i p))) = true := rfl
theorem nIo_sc (x : List Int) : nIo (some (some (.sc x))) = true := rfl
theorem nIo_q (x : List Dt) : nIo (some (some (.q x))) = true := rfl
theorem nIo_od (o : Option Dt) : nIo (some (od o)) = true := by cases o <;> rfl
theorem ev_setOk (i : Nat) (a : A) (env : Env) (te : List A) : setOk i a env te = (decide (i < env.length) && nIo env[i]? && !anyC (isRf i) env (a :: te) && !isIo a) := by
  unfold setOk nIo
  rfl
theorem wipeOk_nil (env : Env) (te : List A) : wipeOk env te [] = true := rfl
theorem wipeOk_cons (env : Env) (te : List A) (v : Nat) (vs : List Nat) : wipeOk env te (v :: vs) = (wipeOk env te vs && !anyC (isRf v) (wipeE env vs) te && nIo (wipeE env vs)[v]?) := by
  rw [wipeOk]
  unfold nIo
  rfl
def wKc (i : Nat) (k : Key) : Option A → Option A
  | some a => if isNestK i k a = true then none else some a
  | none => none
theorem wipeK_nil (i : Nat) (k : Key) : wipeK i k [] = [] := rfl
theorem wipeK_cons (i : Nat) (k : Key) (c : Option A) (e : Env) : wipeK i k (c :: e) = wKc i k c :: wipeK i k e := by
  cases c <;> rfl
theorem wKc_some (i : Nat) (k : Key) (a : A) : wKc i k (some a) = if isNestK i k a = true then none else some a := rfl
theorem wKc_none (i : Nat) (k : Key) : wKc i k none = none := rfl
theorem wKc_od (i : Nat) (k : Key) (o : Option Dt) : wKc i k (od o) = od o := by cases o <;> rfl
end Tw


local macro_rules
  | `(tactic| simp! [$xs,*]) => `(tactic| simp [Tw.owAt, Tw.Ow.sub, Tw.A.val, Tw.Ow.lst?, Tw.A.lstT?, Tw.A.lst?, Tw.A.tup?, Tw.vA, Tw.ev_mVar, Tw.ev_mC, Tw.ev_mNil, Tw.ek_mCons_1, Tw.ek_mCons_0, Tw.ev_mCons, Tw.frzA, Tw.ek_mD_0, Tw.ev_mD, Tw.ek_mOp_1, Tw.ek_mOp_0, Tw.ev_mOp, Tw.ek_mU_0, Tw.ev_mU, Tw.ek_mCB_0, Tw.ev_mCB, Tw.ev_fl2, Tw.ev_fl1, Tw.tstA, Tw.ev_mTst, Tw.ek_mAnd_0, Tw.ev_mAnd, Tw.ek_mOr_0, Tw.ev_mOr, Tw.ek_mNot_0, Tw.ev_mNot, Tw.ev_mYes, Tw.ek_mIfE_0, Tw.ev_mIfE, Tw.ek_mAndE_0, Tw.ev_mAndE, Tw.ek_mOrE_0, Tw.ev_mOrE, Tw.ek_mNotE_0, Tw.ev_mNotE, Tw.ev_setOk, Tw.nIo0, Tw.nIo1, Tw.nIo_d, Tw.nIo_own, Tw.nIo_io, Tw.nIo_rf, Tw.nIo_sc, Tw.nIo_q, Tw.nIo_od, Tw.od_none, Tw.od_some, Tw.ev_gN, Tw.gTs, Tw.ev_gT, Tw.ek_mAsg_0, Tw.ev_mAsg, Tw.ek_mDrop_0, Tw.ev_mDrop, Tw.ek_mIfS_0, Tw.ev_mIfS, Tw.ek_mRet_0, Tw.ev_mRet, Tw.ev_mRetN, Tw.ev_mNext, Tw.ev_mBrk, Tw.ev_mCt, Tw.ev_mNever, Tw.kdQ, Tw.wipeE, Tw.wipeOk_nil, Tw.wipeOk_cons, Tw.Rs.noX, Tw.backA, Tw.backs, Tw.retA, Tw.tupD, Tw.tupAll, Tw.Ow.tup, Tw.A.tup, Tw.A.ioTup, Tw.cvA, Tw.cvAs, Tw.ioS, Tw.brS, Tw.agOk, Tw.setOw, Tw.setIo, Tw.doCall, Tw.ek_mCall_0, Tw.ev_mCall, Tw.d2, Tw.ev_addA, Tw.ev_mulA, Tw.subD, Tw.divD, Tw.modD, Tw.powD, Tw.negD, Tw.ltD, Tw.leD, Tw.gtD, Tw.geD, Tw.isNoneD, Tw.isD, Tw.notD, Tw.seqD, Tw.dAll, Tw.ek_mTup_0, Tw.ev_mTup, Tw.ek_mLst_0, Tw.ev_mLst, Tw.ev_ixA, Tw.ev_mNoPart, Tw.ek_mPart_0, Tw.ev_mPart, Tw.slA, Tw.ek_mSl_2, Tw.ek_mSl_1, Tw.ek_mSl_0, Tw.ev_mSl, Tw.revA, Tw.revLA, Tw.ev_one, Tw.lenD, Tw.ev_lenA, Tw.ev_tupA, Tw.ev_lstA, Tw.ev_allA, Tw.ev_anyA, Tw.tyD, Tw.ek_mIsi_0, Tw.ev_mIsi, Tw.absD, Tw.intD, Tw.ev_min2A, Tw.ev_max2A, Tw.joinS, Tw.ek_mJoin_0, Tw.ev_mJoin, Tw.isNestK, Tw.reOw, Tw.Ow.put, Tw.setP, Tw.isL, Tw.ek_mMeth_0, Tw.ev_mMeth, Tw.ev_appA, Tw.ev_extA, Tw.ev_insA, Tw.ev_popA, Tw.ev_popAtA, Tw.ek_mTix_0, Tw.ev_mTix, Tw.setLA, Tw.ek_mSetL_2, Tw.ek_mSetL_1, Tw.ek_mSetL_0, Tw.ev_mSetL, Tw.A.seq?, Tw.ek_mSeqI_0, Tw.ev_mSeqI, Tw.ek_mRng1_0, Tw.ev_mRng1, Tw.ek_mRng2_1, Tw.ek_mRng2_0, Tw.ev_mRng2, Tw.ek_mEnT_0, Tw.ev_mEnT, Tw.ek_mEnL_0, Tw.ev_mEnL, Tw.ev_mPure, Tw.isDict, Tw.ev_mPureK, Tw.ev_mPureL, Tw.ev_mKI, Tw.keyD, Tw.dgO, Tw.dgA, Tw.dinA, Tw.isDct, Tw.ek_mDGet2_0, Tw.ev_mDGet2, Tw.keysA, Tw.ownTo, Tw.putO, Tw.wipeK_nil, Tw.wipeK_cons, Tw.wKc_some, Tw.wKc_none, Tw.wKc_od, Tw.putA, Tw.ek_mPut_2, Tw.ek_mPut_1, Tw.ek_mPut_0, Tw.ev_mPut, Tw.ev_appLA, Tw.ev_popLA, Tw.ev_orM, Tw.ev_mNest, Tw.flatM, Tw.pairUp, Tw.ek_mDisp1_1, Tw.ek_mDisp1_0, Tw.ev_mDisp1, Tw.DRs.noX, Tw.ek_mPar_0, Tw.ev_mPar, Tw.ek_mPar3_0, Tw.ev_mPar3, Tw.ek_mChain_1, Tw.ek_mChain_0, Tw.ev_mChain, Tw.ev_mDnew, Tw.ev_gL, Tw.A.ow, Tw.zq00, Tw.ev_fl_ok, Tw.ev_th_nx, Tw.ev_th_rt, Tw.ev_lp_nx, Tw.ev_lp_rt, Tw.ev_noXf, Tw.fp_nx, Tw.fp_rt, Tw.fp_seq, Tw.sq_ap, Tw.anyC, Tw.inE_nil, Tw.inE_cons, Tw.cB_some, Tw.cB_none, Tw.cB_od_rf, Tw.cB_od_nest, Tw.cB_od_nestK, Tw.isRf, Tw.isNest, Tw.isIo, Tw.Ow.dt, Tw.mutL, Tw.mDisp, $xs,*])
  | `(tactic| simp!) => `(tactic| simp [Tw.owAt, Tw.Ow.sub, Tw.A.val, Tw.Ow.lst?, Tw.A.lstT?, Tw.A.lst?, Tw.A.tup?, Tw.vA, Tw.ev_mVar, Tw.ev_mC, Tw.ev_mNil, Tw.ek_mCons_1, Tw.ek_mCons_0, Tw.ev_mCons, Tw.frzA, Tw.ek_mD_0, Tw.ev_mD, Tw.ek_mOp_1, Tw.ek_mOp_0, Tw.ev_mOp, Tw.ek_mU_0, Tw.ev_mU, Tw.ek_mCB_0, Tw.ev_mCB, Tw.ev_fl2, Tw.ev_fl1, Tw.tstA, Tw.ev_mTst, Tw.ek_mAnd_0, Tw.ev_mAnd, Tw.ek_mOr_0, Tw.ev_mOr, Tw.ek_mNot_0, Tw.ev_mNot, Tw.ev_mYes, Tw.ek_mIfE_0, Tw.ev_mIfE, Tw.ek_mAndE_0, Tw.ev_mAndE, Tw.ek_mOrE_0, Tw.ev_mOrE, Tw.ek_mNotE_0, Tw.ev_mNotE, Tw.ev_setOk, Tw.nIo0, Tw.nIo1, Tw.nIo_d, Tw.nIo_own, Tw.nIo_io, Tw.nIo_rf, Tw.nIo_sc, Tw.nIo_q, Tw.nIo_od, Tw.od_none, Tw.od_some, Tw.ev_gN, Tw.gTs, Tw.ev_gT, Tw.ek_mAsg_0, Tw.ev_mAsg, Tw.ek_mDrop_0, Tw.ev_mDrop, Tw.ek_mIfS_0, Tw.ev_mIfS, Tw.ek_mRet_0, Tw.ev_mRet, Tw.ev_mRetN, Tw.ev_mNext, Tw.ev_mBrk, Tw.ev_mCt, Tw.ev_mNever, Tw.kdQ, Tw.wipeE, Tw.wipeOk_nil, Tw.wipeOk_cons, Tw.Rs.noX, Tw.backA, Tw.backs, Tw.retA, Tw.tupD, Tw.tupAll, Tw.Ow.tup, Tw.A.tup, Tw.A.ioTup, Tw.cvA, Tw.cvAs, Tw.ioS, Tw.brS, Tw.agOk, Tw.setOw, Tw.setIo, Tw.doCall, Tw.ek_mCall_0, Tw.ev_mCall, Tw.d2, Tw.ev_addA, Tw.ev_mulA, Tw.subD, Tw.divD, Tw.modD, Tw.powD, Tw.negD, Tw.ltD, Tw.leD, Tw.gtD, Tw.geD, Tw.isNoneD, Tw.isD, Tw.notD, Tw.seqD, Tw.dAll, Tw.ek_mTup_0, Tw.ev_mTup, Tw.ek_mLst_0, Tw.ev_mLst, Tw.ev_ixA, Tw.ev_mNoPart, Tw.ek_mPart_0, Tw.ev_mPart, Tw.slA, Tw.ek_mSl_2, Tw.ek_mSl_1, Tw.ek_mSl_0, Tw.ev_mSl, Tw.revA, Tw.revLA, Tw.ev_one, Tw.lenD, Tw.ev_lenA, Tw.ev_tupA, Tw.ev_lstA, Tw.ev_allA, Tw.ev_anyA, Tw.tyD, Tw.ek_mIsi_0, Tw.ev_mIsi, Tw.absD, Tw.intD, Tw.ev_min2A, Tw.ev_max2A, Tw.joinS, Tw.ek_mJoin_0, Tw.ev_mJoin, Tw.isNestK, Tw.reOw, Tw.Ow.put, Tw.setP, Tw.isL, Tw.ek_mMeth_0, Tw.ev_mMeth, Tw.ev_appA, Tw.ev_extA, Tw.ev_insA, Tw.ev_popA, Tw.ev_popAtA, Tw.ek_mTix_0, Tw.ev_mTix, Tw.setLA, Tw.ek_mSetL_2, Tw.ek_mSetL_1, Tw.ek_mSetL_0, Tw.ev_mSetL, Tw.A.seq?, Tw.ek_mSeqI_0, Tw.ev_mSeqI, Tw.ek_mRng1_0, Tw.ev_mRng1, Tw.ek_mRng2_1, Tw.ek_mRng2_0, Tw.ev_mRng2, Tw.ek_mEnT_0, Tw.ev_mEnT, Tw.ek_mEnL_0, Tw.ev_mEnL, Tw.ev_mPure, Tw.isDict, Tw.ev_mPureK, Tw.ev_mPureL, Tw.ev_mKI, Tw.keyD, Tw.dgO, Tw.dgA, Tw.dinA, Tw.isDct, Tw.ek_mDGet2_0, Tw.ev_mDGet2, Tw.keysA, Tw.ownTo, Tw.putO, Tw.wipeK_nil, Tw.wipeK_cons, Tw.wKc_some, Tw.wKc_none, Tw.wKc_od, Tw.putA, Tw.ek_mPut_2, Tw.ek_mPut_1, Tw.ek_mPut_0, Tw.ev_mPut, Tw.ev_appLA, Tw.ev_popLA, Tw.ev_orM, Tw.ev_mNest, Tw.flatM, Tw.pairUp, Tw.ek_mDisp1_1, Tw.ek_mDisp1_0, Tw.ev_mDisp1, Tw.DRs.noX, Tw.ek_mPar_0, Tw.ev_mPar, Tw.ek_mPar3_0, Tw.ev_mPar3, Tw.ek_mChain_1, Tw.ek_mChain_0, Tw.ev_mChain, Tw.ev_mDnew, Tw.ev_gL, Tw.A.ow, Tw.zq00, Tw.ev_fl_ok, Tw.ev_th_nx, Tw.ev_th_rt, Tw.ev_lp_nx, Tw.ev_lp_rt, Tw.ev_noXf, Tw.fp_nx, Tw.fp_rt, Tw.fp_seq, Tw.sq_ap, Tw.anyC, Tw.inE_nil, Tw.inE_cons, Tw.cB_some, Tw.cB_none, Tw.cB_od_rf, Tw.cB_od_nest, Tw.cB_od_nestK, Tw.isRf, Tw.isNest, Tw.isIo, Tw.Ow.dt, Tw.mutL, Tw.mDisp])
  | `(tactic| simp! only [$xs,*]) => `(tactic| simp only [Tw.owAt, Tw.Ow.sub, Tw.A.val, Tw.Ow.lst?, Tw.A.lstT?, Tw.A.lst?, Tw.A.tup?, Tw.vA, Tw.ev_mVar, Tw.ev_mC, Tw.ev_mNil, Tw.ek_mCons_1, Tw.ek_mCons_0, Tw.ev_mCons, Tw.frzA, Tw.ek_mD_0, Tw.ev_mD, Tw.ek_mOp_1, Tw.ek_mOp_0, Tw.ev_mOp, Tw.ek_mU_0, Tw.ev_mU, Tw.ek_mCB_0, Tw.ev_mCB, Tw.ev_fl2, Tw.ev_fl1, Tw.tstA, Tw.ev_mTst, Tw.ek_mAnd_0, Tw.ev_mAnd, Tw.ek_mOr_0, Tw.ev_mOr, Tw.ek_mNot_0, Tw.ev_mNot, Tw.ev_mYes, Tw.ek_mIfE_0, Tw.ev_mIfE, Tw.ek_mAndE_0, Tw.ev_mAndE, Tw.ek_mOrE_0, Tw.ev_mOrE, Tw.ek_mNotE_0, Tw.ev_mNotE, Tw.ev_setOk, Tw.nIo0, Tw.nIo1, Tw.nIo_d, Tw.nIo_own, Tw.nIo_io, Tw.nIo_rf, Tw.nIo_sc, Tw.nIo_q, Tw.nIo_od, Tw.od_none, Tw.od_some, Tw.ev_gN, Tw.gTs, Tw.ev_gT, Tw.ek_mAsg_0, Tw.ev_mAsg, Tw.ek_mDrop_0, Tw.ev_mDrop, Tw.ek_mIfS_0, Tw.ev_mIfS, Tw.ek_mRet_0, Tw.ev_mRet, Tw.ev_mRetN, Tw.ev_mNext, Tw.ev_mBrk, Tw.ev_mCt, Tw.ev_mNever, Tw.kdQ, Tw.wipeE, Tw.wipeOk_nil, Tw.wipeOk_cons, Tw.Rs.noX, Tw.backA, Tw.backs, Tw.retA, Tw.tupD, Tw.tupAll, Tw.Ow.tup, Tw.A.tup, Tw.A.ioTup, Tw.cvA, Tw.cvAs, Tw.ioS, Tw.brS, Tw.agOk, Tw.setOw, Tw.setIo, Tw.doCall, Tw.ek_mCall_0, Tw.ev_mCall, Tw.d2, Tw.ev_addA, Tw.ev_mulA, Tw.subD, Tw.divD, Tw.modD, Tw.powD, Tw.negD, Tw.ltD, Tw.leD, Tw.gtD, Tw.geD, Tw.isNoneD, Tw.isD, Tw.notD, Tw.seqD, Tw.dAll, Tw.ek_mTup_0, Tw.ev_mTup, Tw.ek_mLst_0, Tw.ev_mLst, Tw.ev_ixA, Tw.ev_mNoPart, Tw.ek_mPart_0, Tw.ev_mPart, Tw.slA, Tw.ek_mSl_2, Tw.ek_mSl_1, Tw.ek_mSl_0, Tw.ev_mSl, Tw.revA, Tw.revLA, Tw.ev_one, Tw.lenD, Tw.ev_lenA, Tw.ev_tupA, Tw.ev_lstA, Tw.ev_allA, Tw.ev_anyA, Tw.tyD, Tw.ek_mIsi_0, Tw.ev_mIsi, Tw.absD, Tw.intD, Tw.ev_min2A, Tw.ev_max2A, Tw.joinS, Tw.ek_mJoin_0, Tw.ev_mJoin, Tw.isNestK, Tw.reOw, Tw.Ow.put, Tw.setP, Tw.isL, Tw.ek_mMeth_0, Tw.ev_mMeth, Tw.ev_appA, Tw.ev_extA, Tw.ev_insA, Tw.ev_popA, Tw.ev_popAtA, Tw.ek_mTix_0, Tw.ev_mTix, Tw.setLA, Tw.ek_mSetL_2, Tw.ek_mSetL_1, Tw.ek_mSetL_0, Tw.ev_mSetL, Tw.A.seq?, Tw.ek_mSeqI_0, Tw.ev_mSeqI, Tw.ek_mRng1_0, Tw.ev_mRng1, Tw.ek_mRng2_1, Tw.ek_mRng2_0, Tw.ev_mRng2, Tw.ek_mEnT_0, Tw.ev_mEnT, Tw.ek_mEnL_0, Tw.ev_mEnL, Tw.ev_mPure, Tw.isDict, Tw.ev_mPureK, Tw.ev_mPureL, Tw.ev_mKI, Tw.keyD, Tw.dgO, Tw.dgA, Tw.dinA, Tw.isDct, Tw.ek_mDGet2_0, Tw.ev_mDGet2, Tw.keysA, Tw.ownTo, Tw.putO, Tw.wipeK_nil, Tw.wipeK_cons, Tw.wKc_some, Tw.wKc_none, Tw.wKc_od, Tw.putA, Tw.ek_mPut_2, Tw.ek_mPut_1, Tw.ek_mPut_0, Tw.ev_mPut, Tw.ev_appLA, Tw.ev_popLA, Tw.ev_orM, Tw.ev_mNest, Tw.flatM, Tw.pairUp, Tw.ek_mDisp1_1, Tw.ek_mDisp1_0, Tw.ev_mDisp1, Tw.DRs.noX, Tw.ek_mPar_0, Tw.ev_mPar, Tw.ek_mPar3_0, Tw.ev_mPar3, Tw.ek_mChain_1, Tw.ek_mChain_0, Tw.ev_mChain, Tw.ev_mDnew, Tw.ev_gL, Tw.A.ow, Tw.zq00, Tw.ev_fl_ok, Tw.ev_th_nx, Tw.ev_th_rt, Tw.ev_lp_nx, Tw.ev_lp_rt, Tw.ev_noXf, Tw.fp_nx, Tw.fp_rt, Tw.fp_seq, Tw.sq_ap, Tw.anyC, Tw.inE_nil, Tw.inE_cons, Tw.cB_some, Tw.cB_none, Tw.cB_od_rf, Tw.cB_od_nest, Tw.cB_od_nestK, Tw.isRf, Tw.isNest, Tw.isIo, Tw.Ow.dt, Tw.mutL, Tw.mDisp, $xs,*])
  | `(tactic| simp! only) => `(tactic| simp only [Tw.owAt, Tw.Ow.sub, Tw.A.val, Tw.Ow.lst?, Tw.A.lstT?, Tw.A.lst?, Tw.A.tup?, Tw.vA, Tw.ev_mVar, Tw.ev_mC, Tw.ev_mNil, Tw.ek_mCons_1, Tw.ek_mCons_0, Tw.ev_mCons, Tw.frzA, Tw.ek_mD_0, Tw.ev_mD, Tw.ek_mOp_1, Tw.ek_mOp_0, Tw.ev_mOp, Tw.ek_mU_0, Tw.ev_mU, Tw.ek_mCB_0, Tw.ev_mCB, Tw.ev_fl2, Tw.ev_fl1, Tw.tstA, Tw.ev_mTst, Tw.ek_mAnd_0, Tw.ev_mAnd, Tw.ek_mOr_0, Tw.ev_mOr, Tw.ek_mNot_0, Tw.ev_mNot, Tw.ev_mYes, Tw.ek_mIfE_0, Tw.ev_mIfE, Tw.ek_mAndE_0, Tw.ev_mAndE, Tw.ek_mOrE_0, Tw.ev_mOrE, Tw.ek_mNotE_0, Tw.ev_mNotE, Tw.ev_setOk, Tw.nIo0, Tw.nIo1, Tw.nIo_d, Tw.nIo_own, Tw.nIo_io, Tw.nIo_rf, Tw.nIo_sc, Tw.nIo_q, Tw.nIo_od, Tw.od_none, Tw.od_some, Tw.ev_gN, Tw.gTs, Tw.ev_gT, Tw.ek_mAsg_0, Tw.ev_mAsg, Tw.ek_mDrop_0, Tw.ev_mDrop, Tw.ek_mIfS_0, Tw.ev_mIfS, Tw.ek_mRet_0, Tw.ev_mRet, Tw.ev_mRetN, Tw.ev_mNext, Tw.ev_mBrk, Tw.ev_mCt, Tw.ev_mNever, Tw.kdQ, Tw.wipeE, Tw.wipeOk_nil, Tw.wipeOk_cons, Tw.Rs.noX, Tw.backA, Tw.backs, Tw.retA, Tw.tupD, Tw.tupAll, Tw.Ow.tup, Tw.A.tup, Tw.A.ioTup, Tw.cvA, Tw.cvAs, Tw.ioS, Tw.brS, Tw.agOk, Tw.setOw, Tw.setIo, Tw.doCall, Tw.ek_mCall_0, Tw.ev_mCall, Tw.d2, Tw.ev_addA, Tw.ev_mulA, Tw.subD, Tw.divD, Tw.modD, Tw.powD, Tw.negD, Tw.ltD, Tw.leD, Tw.gtD, Tw.geD, Tw.isNoneD, Tw.isD, Tw.notD, Tw.seqD, Tw.dAll, Tw.ek_mTup_0, Tw.ev_mTup, Tw.ek_mLst_0, Tw.ev_mLst, Tw.ev_ixA, Tw.ev_mNoPart, Tw.ek_mPart_0, Tw.ev_mPart, Tw.slA, Tw.ek_mSl_2, Tw.ek_mSl_1, Tw.ek_mSl_0, Tw.ev_mSl, Tw.revA, Tw.revLA, Tw.ev_one, Tw.lenD, Tw.ev_lenA, Tw.ev_tupA, Tw.ev_lstA, Tw.ev_allA, Tw.ev_anyA, Tw.tyD, Tw.ek_mIsi_0, Tw.ev_mIsi, Tw.absD, Tw.intD, Tw.ev_min2A, Tw.ev_max2A, Tw.joinS, Tw.ek_mJoin_0, Tw.ev_mJoin, Tw.isNestK, Tw.reOw, Tw.Ow.put, Tw.setP, Tw.isL, Tw.ek_mMeth_0, Tw.ev_mMeth, Tw.ev_appA, Tw.ev_extA, Tw.ev_insA, Tw.ev_popA, Tw.ev_popAtA, Tw.ek_mTix_0, Tw.ev_mTix, Tw.setLA, Tw.ek_mSetL_2, Tw.ek_mSetL_1, Tw.ek_mSetL_0, Tw.ev_mSetL, Tw.A.seq?, Tw.ek_mSeqI_0, Tw.ev_mSeqI, Tw.ek_mRng1_0, Tw.ev_mRng1, Tw.ek_mRng2_1, Tw.ek_mRng2_0, Tw.ev_mRng2, Tw.ek_mEnT_0, Tw.ev_mEnT, Tw.ek_mEnL_0, Tw.ev_mEnL, Tw.ev_mPure, Tw.isDict, Tw.ev_mPureK, Tw.ev_mPureL, Tw.ev_mKI, Tw.keyD, Tw.dgO, Tw.dgA, Tw.dinA, Tw.isDct, Tw.ek_mDGet2_0, Tw.ev_mDGet2, Tw.keysA, Tw.ownTo, Tw.putO, Tw.wipeK_nil, Tw.wipeK_cons, Tw.wKc_some, Tw.wKc_none, Tw.wKc_od, Tw.putA, Tw.ek_mPut_2, Tw.ek_mPut_1, Tw.ek_mPut_0, Tw.ev_mPut, Tw.ev_appLA, Tw.ev_popLA, Tw.ev_orM, Tw.ev_mNest, Tw.flatM, Tw.pairUp, Tw.ek_mDisp1_1, Tw.ek_mDisp1_0, Tw.ev_mDisp1, Tw.DRs.noX, Tw.ek_mPar_0, Tw.ev_mPar, Tw.ek_mPar3_0, Tw.ev_mPar3, Tw.ek_mChain_1, Tw.ek_mChain_0, Tw.ev_mChain, Tw.ev_mDnew, Tw.ev_gL, Tw.A.ow, Tw.zq00, Tw.ev_fl_ok, Tw.ev_th_nx, Tw.ev_th_rt, Tw.ev_lp_nx, Tw.ev_lp_rt, Tw.ev_noXf, Tw.fp_nx, Tw.fp_rt, Tw.fp_seq, Tw.sq_ap, Tw.anyC, Tw.inE_nil, Tw.inE_cons, Tw.cB_some, Tw.cB_none, Tw.cB_od_rf, Tw.cB_od_nest, Tw.cB_od_nestK, Tw.isRf, Tw.isNest, Tw.isIo, Tw.Ow.dt, Tw.mutL, Tw.mDisp])
namespace Tw
open PySem PySem.Spec PyProof.Rows L2
def g_SINGLE : List Str := ["front", "back", "lift", "cut"]
def g_WORDS : List Str := ["first", "last", "ahead", "behind", "front", "back", "swap", "turn", "lift", "cut", "pour", "wrap", "put"]

end Tw
namespace Tw
open PySem PySem.Spec PyProof.Rows L2
def topS (i : Nat) : Stmt := PySem.Challenge.pw_twigscripts_k78_scripts_as_objects.main.body.getD i (.Pass ⟨0, 0, 0, 0⟩)
abbrev s_is_name : Stmt := topS 33
abbrev s_deed_error : Stmt := topS 38
abbrev s_makes : Stmt := topS 39
abbrev s_roles : Stmt := topS 40
abbrev s_new_names : Stmt := topS 42
abbrev s_old_names : Stmt := topS 41
abbrev s_script_error : Stmt := topS 43
abbrev s_Script___init___x : Stmt := inClass (topS 48) 0
abbrev s_deckL : Stmt := topS 50
abbrev s_drawL : Stmt := topS 51
abbrev s_nameL : Stmt := topS 52
abbrev s_namesL : Stmt := topS 53
abbrev s_pickL : Stmt := topS 54
abbrev s_oddL : Stmt := topS 59
abbrev s_Script___contains___x : Stmt := inClass (topS 48) 12
abbrev s_Script___len___x : Stmt := inClass (topS 48) 11
abbrev s_Script_deeds_x : Stmt := inClass (topS 48) 2
abbrev s_Script_new_x : Stmt := inClass (topS 48) 4
abbrev s_Script_old_x : Stmt := inClass (topS 48) 3
abbrev s_rolesL : Stmt := topS 57
abbrev s_rightL_v3_x : Stmt := topS 60
abbrev s_wordsL : Stmt := topS 55
abbrev s_some_deedL_v1 : Stmt := topS 56
abbrev s_right_scriptL : Stmt := topS 58
abbrev s_law : Stmt := topS 61
abbrev si_BadScript : Stmt := inClass (topS 26) 0
def dd_is_name : He.DefD := ⟨("is_name", none), "is_name", "is_name", defArgs s_is_name, defBody s_is_name, defScope s_is_name, [], []⟩
def dd_deed_error : He.DefD := ⟨("deed_error", none), "deed_error", "deed_error", defArgs s_deed_error, defBody s_deed_error, defScope s_deed_error, [], []⟩
def dd_makes : He.DefD := ⟨("makes", none), "makes", "makes", defArgs s_makes, defBody s_makes, defScope s_makes, [], []⟩
def dd_roles : He.DefD := ⟨("roles", none), "roles", "roles", defArgs s_roles, defBody s_roles, defScope s_roles, [], []⟩
def dd_new_names : He.DefD := ⟨("new_names", none), "new_names", "new_names", defArgs s_new_names, defBody s_new_names, defScope s_new_names, [], []⟩
def dd_old_names : He.DefD := ⟨("old_names", none), "old_names", "old_names", defArgs s_old_names, defBody s_old_names, defScope s_old_names, [], []⟩
def dd_script_error : He.DefD := ⟨("script_error", none), "script_error", "script_error", defArgs s_script_error, defBody s_script_error, defScope s_script_error, [], []⟩
def dd_Script___init___x : He.DefD := ⟨("Script", some "__init__"), "__init__", "Script.__init__", defArgs s_Script___init___x, defBody s_Script___init___x, defScope s_Script___init___x, [.adr (He.dflAt ("Script", some "__init__") 0)], []⟩
def dd_deckL : He.DefD := ⟨("_law_deck", none), "_law_deck", "_law_deck", defArgs s_deckL, defBody s_deckL, defScope s_deckL, [], []⟩
def dd_drawL : He.DefD := ⟨("_law_draw", none), "_law_draw", "_law_draw", defArgs s_drawL, defBody s_drawL, defScope s_drawL, [], []⟩
def dd_nameL : He.DefD := ⟨("_law_name", none), "_law_name", "_law_name", defArgs s_nameL, defBody s_nameL, defScope s_nameL, [], []⟩
def dd_namesL : He.DefD := ⟨("_law_names", none), "_law_names", "_law_names", defArgs s_namesL, defBody s_namesL, defScope s_namesL, [], []⟩
def dd_pickL : He.DefD := ⟨("_law_pick", none), "_law_pick", "_law_pick", defArgs s_pickL, defBody s_pickL, defScope s_pickL, [], []⟩
def dd_oddL : He.DefD := ⟨("_law_odd", none), "_law_odd", "_law_odd", defArgs s_oddL, defBody s_oddL, defScope s_oddL, [], []⟩
def dd_Script___contains___x : He.DefD := ⟨("Script", some "__contains__"), "__contains__", "Script.__contains__", defArgs s_Script___contains___x, defBody s_Script___contains___x, defScope s_Script___contains___x, [], []⟩
def dd_Script___len___x : He.DefD := ⟨("Script", some "__len__"), "__len__", "Script.__len__", defArgs s_Script___len___x, defBody s_Script___len___x, defScope s_Script___len___x, [], []⟩
def pd_Script_deeds_x : PrD := ⟨"Script", "deeds", "Script.deeds", defArgs s_Script_deeds_x, defBody s_Script_deeds_x, defScope s_Script_deeds_x⟩
def pd_Script_new_x : PrD := ⟨"Script", "new", "Script.new", defArgs s_Script_new_x, defBody s_Script_new_x, defScope s_Script_new_x⟩
def pd_Script_old_x : PrD := ⟨"Script", "old", "Script.old", defArgs s_Script_old_x, defBody s_Script_old_x, defScope s_Script_old_x⟩
def dd_rolesL : He.DefD := ⟨("_law_roles", none), "_law_roles", "_law_roles", defArgs s_rolesL, defBody s_rolesL, defScope s_rolesL, [], []⟩
def dd_rightL_v3_x : He.DefD := ⟨("_law_right", none), "_law_right", "_law_right", defArgs s_rightL_v3_x, defBody s_rightL_v3_x, defScope s_rightL_v3_x, [], []⟩
def dd_wordsL : He.DefD := ⟨("_law_words", none), "_law_words", "_law_words", defArgs s_wordsL, defBody s_wordsL, defScope s_wordsL, [], []⟩
def dd_some_deedL_v1 : He.DefD := ⟨("_law_some_deed", none), "_law_some_deed", "_law_some_deed", defArgs s_some_deedL_v1, defBody s_some_deedL_v1, defScope s_some_deedL_v1, [], []⟩
def dd_right_scriptL : He.DefD := ⟨("_law_right_script", none), "_law_right_script", "_law_right_script", defArgs s_right_scriptL, defBody s_right_scriptL, defScope s_right_scriptL, [], []⟩
def dd_law : He.DefD := ⟨("law", none), "law", "law", defArgs s_law, defBody s_law, defScope s_law, [], []⟩
def ddi_BadScript : He.DefD := ⟨("BadScript", some "__init__"), "__init__", "BadScript.__init__", defArgs si_BadScript, defBody si_BadScript, defScope si_BadScript, [], []⟩
def fnD : List He.DefD := [dd_is_name, dd_deed_error, dd_makes, dd_roles, dd_new_names, dd_old_names, dd_script_error, dd_Script___init___x, dd_deckL, dd_drawL, dd_nameL, dd_namesL, dd_pickL, dd_oddL, dd_Script___contains___x, dd_Script___len___x, dd_rolesL, dd_rightL_v3_x, dd_wordsL, dd_some_deedL_v1, dd_right_scriptL, dd_law, ddi_BadScript]
def psD : List PrD := [pd_Script_deeds_x, pd_Script_new_x, pd_Script_old_x]
def faD : List He.Fa := [.glo "is_name", .glo "deed_error", .glo "makes", .glo "roles", .glo "new_names", .glo "old_names", .glo "script_error", .meth "Script" "__init__", .glo "_law_deck", .glo "_law_draw", .glo "_law_name", .glo "_law_names", .glo "_law_pick", .glo "_law_odd", .meth "Script" "__contains__", .meth "Script" "__len__", .glo "_law_roles", .glo "_law_right", .glo "_law_words", .glo "_law_some_deed", .glo "_law_right_script", .glo "law", .free "abs", .free "all", .free "enumerate", .free "int", .free "isinstance", .free "len", .free "range", .free "sorted", .free "str", .free "tuple", .str "LETTERS" "abcdefghijklmnopqrstuvwxyz", .int "MAX_DEEDS" 12, .int "MAX_LETTERS" 8, .int "MAX_NEW" 3, .int "MAX_OLD" 4, .glo "SINGLE", .glo "WORDS", .glo "BadScript", .glo "Script", .meth "BadScript" "__init__", .cls "Script", .mkr "Script", .noat "Script" "row", .noat "BadScript" "error"]
def chkD (K : PySem.W.Frag) : Bool := tupNB K "SINGLE" g_SINGLE && tupNB K "WORDS" g_WORDS && oexB K (He.ga K "BadScript") && emT K (He.dflAt ("Script", some "__init__") 0 K) && isoB K "Script" (He.ga K "Script") true
abbrev RR : PySem.W.OpenRow := PySem.W.OpenLaw.row PySem.Challenge.rw_twigscripts_k78_scripts_as_objects
abbrev hkD : PySem.W.Hook := hookP 6 chkD faD fnD psD
def obD (s : PySem.W.SharedT) : AlP := obsPG 6 chkD faD fnD psD (HandSHeadRun.getT s)
def looseD : List Str := [("_wall" : Str), ("MAX_DEEDS" : Str), ("MAX_DEEP" : Str), ("MAX_NAMES" : Str), ("MAX_NEW" : Str), ("MAX_OLD" : Str), ("MOVES" : Str), ("WORDS" : Str), ("SINGLE" : Str), ("begin_of" : Str), ("end_of" : Str), ("span" : Str), ("is_there" : Str), ("is_within" : Str), ("old_of" : Str), ("new_of" : Str), ("stop_of" : Str), ("moved" : Str), ("swapped" : Str), ("turned" : Str), ("poured" : Str), ("done" : Str), ("done_all" : Str), ("TwigError" : Str), ("BadScript" : Str), ("BadWood" : Str), ("Stopped" : Str), ("Unlike" : Str), ("LETTERS" : Str), ("MAX_LETTERS" : Str), ("is_name" : Str), ("wood_error" : Str), ("row_of" : Str), ("wood_from" : Str), ("deed_error" : Str), ("makes" : Str), ("roles" : Str), ("old_names" : Str), ("new_names" : Str), ("script_error" : Str), ("do_script" : Str), ("script_text" : Str), ("Script" : Str), ("_law_deck" : Str), ("_law_draw" : Str), ("_law_name" : Str), ("_law_names" : Str), ("_law_pick" : Str), ("_law_words" : Str), ("_law_some_deed" : Str), ("_law_roles" : Str), ("_law_right_script" : Str), ("_law_odd" : Str), ("_law_right" : Str)]
theorem runD (w : World) : HandSHeadRun.RunEq RR (PySem.W.view RR.prog [61]) hkD obD 20000 looseD w := by
  intro os
  kernel_rfl
end Tw
namespace Tw
open PySem PySem.Spec PyProof.Rows L2

/-- slots of is_name: 0 value, 1 sign -/
def n_is_name : List Str := ["value", "sign"]
def t_is_name (K : KW) : TS :=
  (tSeq (tIfS (tOr (tNot (tB (tCB (rIsi K) (tCons (tVar 0) (tCons (tC (.ty "str")) tNil))))) (tNot (tTest (tChain rLeI rLeI (tC (.int 1)) (tCB (rLenU K) (tCons (tVar 0) tNil)) (tC (.int 8)))))) (tRet (tC (.bl false))) tNext)
    (tRet (tCB (rAll K) (tCons (tLc (iSeq K (tVar 0)) (gName 1) tYes (tOp (rInU K false) (tVar 1) (tC (.str "abcdefghijklmnopqrstuvwxyz"))) [1]) tNil))))
noncomputable def m_is_name : MS :=
  (mSeq (mIfS (mOr (mNot (mTst (mIsi "str" (mVar 0)))) (mNot (mTst (mChain leD leD (mC (.int 1)) (mCB (one lenA) (mCons (mVar 0) mNil)) (mC (.int 8)))))) (mRet (mC (.bool false))) mNext)
    (mRet (mCB (one allA) (mCons (mLc .d (mSeqI (mVar 0)) (gN 1) mYes (mOp (fl2 (inD false)) (mVar 1) (mC (.str "abcdefghijklmnopqrstuvwxyz"))) [1]) mNil))))
theorem ss_is_name {K : KW} {B : Bs} {W : WX} : SS K B W (t_is_name K) (m_is_name) :=
  (ss_seq (ss_if (st_or (st_not (st_B (se_isi (se_var _)))) (st_not (st_Test (se_chain os_le os_le (se_int _) (se_cb (soa_one so1_len) (sa_cons (se_var _) sa_nil)) (se_int _))))) (ss_ret (se_bl _)) ss_next)
    (ss_ret (se_cb (soa_one so1_all) (sa_cons (se_lc (si_seq (se_var _)) (sgw_name _ (by decide)) st_yes (se_op (so2_fl (os_in false)) (se_var _) (se_str _ (by decide +kernel)))) sa_nil))))
noncomputable def f_is_name : DF := runM 2 m_is_name

/-- slots of deed_error: 0 value, 1 item -/
--G SINGLE
--G WORDS
def n_deed_error : List Str := ["value", "item"]
def t_deed_error (K : KW) : TS :=
  (tSeq (tIfS (tOr (tNot (tB (tCB (rIsi K) (tCons (tVar 0) (tCons (tC (.ty "tuple")) tNil))))) (tOr (tTest (tOp (rEqU K) (tVar 0) (tTupF tNil))) (tTest (tOp (rInU K true) (tOp (rIx K) (tVar 0) (tC (.int 0))) (tC (.ref (He.ga K "WORDS"))))))) (tRet (tC (.str "deed"))) tNext)
    (tSeq (tIfS (tTest (tOp (rNeU K) (tCB (rLenU K) (tCons (tVar 0) tNil)) (tIf (tTest (tOp (rInU K false) (tOp (rIx K) (tVar 0) (tC (.int 0))) (tC (.ref (He.ga K "SINGLE"))))) (tC (.int 2)) (tC (.int 3))))) (tRet (tC (.str "deed"))) tNext)
    (tRet (tIf (tB (tCB (rAll K) (tCons (tLc (iSeq K (tSl (rSlU K) (tVar 0) (tPart (tC (.int 1))) tNoPart)) (gName 1) tYes (tCall (spN K f_is_name 1) [] E0 (tCons (tVar 1) tNil)) [1]) tNil))) (tC .non) (tC (.str "name"))))))
noncomputable def m_deed_error : MS :=
  (mSeq (mIfS (mOr (mNot (mTst (mIsi "tuple" (mVar 0)))) (mOr (mTst (mOp (fl2 eqD) (mVar 0) (mTup mNil))) (mTst (mOp (fl2 (inD true)) (mOp ixA (mVar 0) (mC (.int 0))) (mC (.tuple (g_WORDS.map .str))))))) (mRet (mC (.str "deed"))) mNext)
    (mSeq (mIfS (mTst (mOp (fl2 neD) (mCB (one lenA) (mCons (mVar 0) mNil)) (mIfE (mTst (mOp (fl2 (inD false)) (mOp ixA (mVar 0) (mC (.int 0))) (mC (.tuple (g_SINGLE.map .str))))) (mC (.int 2)) (mC (.int 3))))) (mRet (mC (.str "deed"))) mNext)
    (mRet (mIfE (mTst (mCB (one allA) (mCons (mLc .d (mSeqI (mD (mSl (mVar 0) (mPart (mC (.int 1))) mNoPart))) (gN 1) mYes (mD (mCall (noXf f_is_name) [false] (mCons (mVar 1) mNil))) [1]) mNil))) (mC .none) (mC (.str "name"))))))
theorem ss_deed_error {K : KW} {B : Bs} {W : WX} (h_SINGLE : ∀ H, TupN K H (He.ga K "SINGLE") (g_SINGLE.map V.str)) (h_WORDS : ∀ H, TupN K H (He.ga K "WORDS") (g_WORDS.map V.str)) : SS K B W (t_deed_error K) (m_deed_error) :=
  (ss_seq (ss_if (st_or (st_not (st_B (se_isi (se_var _)))) (st_or (st_Test (se_op (so2_fl os_eq) (se_var _) (se_tup sa_nil))) (st_Test (se_op (so2_fl (os_in true)) (se_op so_ix (se_var _) (se_int _)) (se_gt (x := "WORDS") h_WORDS (by decide +kernel)))))) (ss_ret (se_str _ (by decide +kernel))) ss_next)
    (ss_seq (ss_if (st_Test (se_op (so2_fl os_ne) (se_cb (soa_one so1_len) (sa_cons (se_var _) sa_nil)) (se_if (st_Test (se_op (so2_fl (os_in false)) (se_op so_ix (se_var _) (se_int _)) (se_gt (x := "SINGLE") h_SINGLE (by decide +kernel)))) (se_int _) (se_int _)))) (ss_ret (se_str _ (by decide +kernel))) ss_next)
    (ss_ret (se_if (st_B (se_cb (soa_one so1_all) (sa_cons (se_lc (si_seq (se_D (se_sl (se_var _) (so_part (se_int _)) so_none))) (sgw_name _ (by decide)) st_yes (se_D (se_call0 rfl (sa_cons (se_var _) sa_nil)))) sa_nil))) se_non (se_str _ (by decide +kernel))))))
noncomputable def f_deed_error : DF := runM 2 m_deed_error

/-- slots of makes: 0 deed, 1 k -/
def n_makes : List Str := ["deed", "k"]
def t_makes (K : KW) : TS :=
  (tRet (tOrV (tAndV (tOp (rEqU K) (tOp (rIx K) (tVar 0) (tC (.int 0))) (tC (.str "wrap"))) (tOp (rEqU K) (tVar 1) (tC (.int 2)))) (tAndV (tOp (rEqU K) (tOp (rIx K) (tVar 0) (tC (.int 0))) (tC (.str "put"))) (tOp (rEqU K) (tVar 1) (tC (.int 1))))))
noncomputable def m_makes : MS :=
  (mRet (mOrE (mAndE (mOp (fl2 eqD) (mOp ixA (mVar 0) (mC (.int 0))) (mC (.str "wrap"))) (mOp (fl2 eqD) (mVar 1) (mC (.int 2)))) (mAndE (mOp (fl2 eqD) (mOp ixA (mVar 0) (mC (.int 0))) (mC (.str "put"))) (mOp (fl2 eqD) (mVar 1) (mC (.int 1))))))
theorem ss_makes {K : KW} {B : Bs} {W : WX} : SS K B W (t_makes K) (m_makes) :=
  (ss_ret (se_or (se_and (se_op (so2_fl os_eq) (se_op so_ix (se_var _) (se_int _)) (se_str _ (by decide +kernel))) (se_op (so2_fl os_eq) (se_var _) (se_int _))) (se_and (se_op (so2_fl os_eq) (se_op so_ix (se_var _) (se_int _)) (se_str _ (by decide +kernel))) (se_op (so2_fl os_eq) (se_var _) (se_int _)))))
noncomputable def f_makes : DF := runM 2 m_makes

/-- slots of roles: 0 deeds, 1 found, 2 deed, 3 k, 4 item -/
def n_roles : List Str := ["deeds", "found", "deed", "k", "item"]
def t_roles (K : KW) : TS :=
  (tSeq (tAsg tDNewK (gName 1))
    (tSeq (tFor (iSeq K (tVar 0)) (gName 2) (tFor (iEnumT K (tCons (tVar 2) tNil)) (gTup K 2 (gNames [3, 4])) (tIfS (tTest (tOp rGtI (tVar 3) (tC (.int 0)))) (tDrop (tDSetd (tVar 1) (tVar 4) (tCall (spN K f_makes 2) [] E0 (tCons (tVar 2) (tCons (tVar 3) tNil))))) tNext)))
    (tRet (tVar 1))))
noncomputable def m_roles : MS :=
  (mSeq (mAsg mDnew (gN 1))
    (mSeq (mFor .d (mSeqI (mVar 0)) (gN 2) (mFor kdQ (mEnT (mVar 2)) (gT [3, 4]) (mIfS (mTst (mOp (fl2 gtD) (mVar 3) (mC (.int 0)))) (mDrop (mSetd (mVar 1) (mVar 4) (mD (mCall (noXf f_makes) [false, false] (mCons (mVar 2) (mCons (mVar 3) mNil)))))) mNext)))
    (mRet (mVar 1))))
theorem ss_roles {K : KW} {B : Bs} {W : WX} : SS K B W (t_roles K) (m_roles) :=
  (ss_seq (ss_asg se_dnew (sg_name _))
    (ss_seq (ss_for (si_seq (se_var _)) (sg_name _) (ss_for (si_enT (se_var _)) (sg_tup _ rfl) (ss_if (st_Test (se_op (so2_fl os_gt) (se_var _) (se_int _))) (ss_drop (se_setd (se_var _) (se_var _) (se_D (se_call0 rfl (sa_cons (se_var _) (sa_cons (se_var _) sa_nil)))))) ss_next)))
    (ss_ret (se_var _))))
noncomputable def f_roles : DF := runM 5 m_roles

/-- slots of new_names: 0 script, 1 name, 2 is_new -/
def n_new_names : List Str := ["script", "name", "is_new"]
def t_new_names (K : KW) : TS :=
  (tRet (tCB (rTupOfF K) (tCons (tCB (rSortedS K) (tCons (tLc (iItemsF (tCall (spN K f_roles 1) [] E0 (tCons (tVar 0) tNil))) (gTup K 2 (gNames [1, 2])) (tB (tVar 2)) (tVar 1) [1, 2]) tNil)) tNil)))
noncomputable def m_new_names : MS :=
  (mRet (mCB (one tupA) (mCons (mCB (one sortA) (mCons (mLcI (mCall (noXf f_roles) [false] (mCons (mVar 0) mNil)) (gT [1, 2]) (mTst (mVar 2)) (mD (mVar 1)) [1, 2]) mNil)) mNil)))
theorem ss_new_names {K : KW} {B : Bs} {W : WX} : SS K B W (t_new_names K) (m_new_names) :=
  (ss_ret (se_cb (soa_one so1_tup) (sa_cons (se_cb (soa_one so1_sort) (sa_cons (se_lcI (se_call0 rfl (sa_cons (se_var _) sa_nil)) (fun B => (sgw_tup _ rfl (by decide))) (fun B => (st_B (se_var _))) (fun B => (se_D (se_var _)))) sa_nil)) sa_nil)))
noncomputable def f_new_names : DF := runM 3 m_new_names

/-- slots of old_names: 0 script, 1 name, 2 is_new -/
def n_old_names : List Str := ["script", "name", "is_new"]
def t_old_names (K : KW) : TS :=
  (tRet (tCB (rTupOfF K) (tCons (tCB (rSortedS K) (tCons (tLc (iItemsF (tCall (spN K f_roles 1) [] E0 (tCons (tVar 0) tNil))) (gTup K 2 (gNames [1, 2])) (tNot (tB (tVar 2))) (tVar 1) [1, 2]) tNil)) tNil)))
noncomputable def m_old_names : MS :=
  (mRet (mCB (one tupA) (mCons (mCB (one sortA) (mCons (mLcI (mCall (noXf f_roles) [false] (mCons (mVar 0) mNil)) (gT [1, 2]) (mNot (mTst (mVar 2))) (mD (mVar 1)) [1, 2]) mNil)) mNil)))
theorem ss_old_names {K : KW} {B : Bs} {W : WX} : SS K B W (t_old_names K) (m_old_names) :=
  (ss_ret (se_cb (soa_one so1_tup) (sa_cons (se_cb (soa_one so1_sort) (sa_cons (se_lcI (se_call0 rfl (sa_cons (se_var _) sa_nil)) (fun B => (sgw_tup _ rfl (by decide))) (fun B => (st_not (st_B (se_var _)))) (fun B => (se_D (se_var _)))) sa_nil)) sa_nil)))
noncomputable def f_old_names : DF := runM 3 m_old_names

/-- slots of script_error: 0 value, 1 index, 2 deed, 3 word -/
def n_script_error : List Str := ["value", "index", "deed", "word"]
def t_script_error (K : KW) : TS :=
  (tSeq (tIfS (tOr (tNot (tB (tCB (rIsi K) (tCons (tVar 0) (tCons (tC (.ty "tuple")) tNil))))) (tTest (tOp rGtI (tCB (rLenU K) (tCons (tVar 0) tNil)) (tC (.int 12))))) (tRet (tTupF (tCons (tC .non) (tCons (tC (.str "script")) tNil)))) tNext)
    (tSeq (tFor (iEnumT K (tCons (tVar 0) tNil)) (gTup K 2 (gNames [1, 2])) (tSeq (tAsg (tCall (spN K f_deed_error 1) [] E0 (tCons (tVar 2) tNil)) (gName 3))
    (tIfS (tTest (tOp rNotN (tVar 3) (tC .non))) (tRet (tTupF (tCons (tVar 1) (tCons (tVar 3) tNil)))) tNext)))
    (tSeq (tIfS (tTest (tOp rGtI (tCB (rLenU K) (tCons (tCall (spN K f_old_names 1) [] E0 (tCons (tVar 0) tNil)) tNil)) (tC (.int 4)))) (tRet (tTupF (tCons (tC .non) (tCons (tC (.str "old")) tNil)))) tNext)
    (tRet (tIf (tTest (tOp rGtI (tCB (rLenU K) (tCons (tCall (spN K f_new_names 1) [] E0 (tCons (tVar 0) tNil)) tNil)) (tC (.int 3)))) (tTupF (tCons (tC .non) (tCons (tC (.str "new")) tNil))) (tC .non))))))
noncomputable def m_script_error : MS :=
  (mSeq (mIfS (mOr (mNot (mTst (mIsi "tuple" (mVar 0)))) (mTst (mOp (fl2 gtD) (mCB (one lenA) (mCons (mVar 0) mNil)) (mC (.int 12))))) (mRet (mTup (mCons (mC .none) (mCons (mC (.str "script")) mNil)))) mNext)
    (mSeq (mFor kdQ (mEnT (mVar 0)) (gT [1, 2]) (mSeq (mAsg (mCall (noXf f_deed_error) [false] (mCons (mVar 2) mNil)) (gN 3))
    (mIfS (mTst (mOp (fl2 notD) (mVar 3) (mC .none))) (mRet (mTup (mCons (mD (mVar 1)) (mCons (mD (mVar 3)) mNil)))) mNext)))
    (mSeq (mIfS (mTst (mOp (fl2 gtD) (mCB (one lenA) (mCons (mCall (noXf f_old_names) [false] (mCons (mVar 0) mNil)) mNil)) (mC (.int 4)))) (mRet (mTup (mCons (mC .none) (mCons (mC (.str "old")) mNil)))) mNext)
    (mRet (mIfE (mTst (mOp (fl2 gtD) (mCB (one lenA) (mCons (mCall (noXf f_new_names) [false] (mCons (mVar 0) mNil)) mNil)) (mC (.int 3)))) (mTup (mCons (mC .none) (mCons (mC (.str "new")) mNil))) (mC .none))))))
theorem ss_script_error {K : KW} {B : Bs} {W : WX} : SS K B W (t_script_error K) (m_script_error) :=
  (ss_seq (ss_if (st_or (st_not (st_B (se_isi (se_var _)))) (st_Test (se_op (so2_fl os_gt) (se_cb (soa_one so1_len) (sa_cons (se_var _) sa_nil)) (se_int _)))) (ss_ret (se_tup (sa_cons se_non (sa_cons (se_str _ (by decide +kernel)) sa_nil)))) ss_next)
    (ss_seq (ss_for (si_enT (se_var _)) (sg_tup _ rfl) (ss_seq (ss_asg (se_call0 rfl (sa_cons (se_var _) sa_nil)) (sg_name _))
    (ss_if (st_Test (se_op (so2_fl os_isnot) (se_var _) se_non)) (ss_ret (se_tup (sa_cons (se_D (se_var _)) (sa_cons (se_D (se_var _)) sa_nil)))) ss_next)))
    (ss_seq (ss_if (st_Test (se_op (so2_fl os_gt) (se_cb (soa_one so1_len) (sa_cons (se_call0 rfl (sa_cons (se_var _) sa_nil)) sa_nil)) (se_int _))) (ss_ret (se_tup (sa_cons se_non (sa_cons (se_str _ (by decide +kernel)) sa_nil)))) ss_next)
    (ss_ret (se_if (st_Test (se_op (so2_fl os_gt) (se_cb (soa_one so1_len) (sa_cons (se_call0 rfl (sa_cons (se_var _) sa_nil)) sa_nil)) (se_int _))) (se_tup (sa_cons se_non (sa_cons (se_str _ (by decide +kernel)) sa_nil))) se_non)))))
noncomputable def f_script_error : DF := runM 4 m_script_error

/-- slots of Script___init__: 0 self, 1 deeds, 2 error -/
def n_Script___init___x : List Str := ["self", "deeds", "error"]
def t_Script___init___x (W : WX) (K : KW) : TS :=
  (tSeq (tAsg (tCall (spN K f_script_error 1) [] E0 (tCons (tVar 1) tNil)) (gName 2))
    (tSeq (tIfS (tTest (tOp rNotN (tVar 2) (tC .non))) (tRaiseO (He.ga K "BadScript") (spI1 K "error") (tCons (tVar 2) tNil) W) tNext)
    (sFld K (tVar 0) (tVar 1) "row")))
noncomputable def m_Script___init___x : MS :=
  (mSeq (mAsg (mCall (noXf f_script_error) [false] (mCons (mVar 1) mNil)) (gN 2))
    (mSeq (mIfS (mTst (mOp (fl2 notD) (mVar 2) (mC .none))) (mRaise "BadScript" ["error"] (mCons (mD (mVar 2)) mNil)) mNext)
    (mSetF [("Script" : Str)] "row" 0 (mD (mVar 1)))))
theorem ss_Script___init___x {K : KW} {B : Bs} {W : WX} (of_Script_row : ObC K "Script" "row") (x_BadScript : OexC K (He.ga K "BadScript")) (xn_BadScript_error : PySem.W.findIn K (.ref (He.ga K "BadScript")) "error" = some none) : SS K B W (t_Script___init___x W K) (m_Script___init___x) :=
  (ss_seq (ss_asg (se_call0 rfl (sa_cons (se_var _) sa_nil)) (sg_name _))
    (ss_seq (ss_if (st_Test (se_op (so2_fl os_isnot) (se_var _) se_non)) (ss_raise1 x_BadScript xn_BadScript_error (sa_cons (se_D (se_var _)) sa_nil)) ss_next)
    (ss_setF (obs_cons of_Script_row obs_nil) (se_D (se_var _)))))
noncomputable def f_Script___init___x : DF := runM 3 m_Script___init___x

/-- slots of _law_deck: 0 _law_script, 1 _law_great, 2 _law_mixed, 3 _law_cell, 4 _law_more -/
def n_deckL : List Str := ["_law_script", "_law_great", "_law_mixed", "_law_cell", "_law_more"]
def t_deckL (K : KW) : TS :=
  (tSeq (tPar 1 2 (tCons (tC (.int 0)) (tCons (tOp (rAddU K) (tC (.int 2917)) (tOp rMulU (tC (.int 41)) (tCB (rLenU K) (tCons (tVar 0) tNil)))) tNil)))
    (tSeq (tFor (iSeq K (tSl (rSlU K) (tVar 0) tNoPart (tPart (tC (.int 60))))) (gName 3) (tSeq (tAsg (tOp (rAddU K) (tOp (rAddU K) (tOp rMulU (tC (.int 2)) (tCB rAbs (tCons (tVar 3) tNil))) (tCB rInt1 (tCons (tOp rLtU (tVar 3) (tC (.int 0))) tNil))) (tC (.int 1))) (gName 4))
    (tSeq (tAsg (tOp rModI (tCB rInt1 (tCons (tOp (rAddU K) (tOp rMulU (tVar 2) (tC (.int 6364136223846793005))) (tVar 4)) tNil)) (tC (.int 2305843009213693951))) (gName 2))
    (tIfS (tTest (tOp rGeI (tCB rAbs (tCons (tVar 3) tNil)) (tOp rPowI (tC (.int 10)) (tC (.int 18))))) (tAsg (tOp (rAddU K) (tOp rMulU (tVar 1) (tC (.int 37))) (tCB rAbs (tCons (tVar 3) tNil))) (gName 1)) tNext))))
    (tRet (tLst (tCons (tVar 1) (tCons (tVar 2) (tCons (tC (.int 0)) tNil)))))))
noncomputable def m_deckL : MS :=
  (mSeq (mPar 1 2 (mCons (mC (.int 0)) (mCons (mOp addA (mC (.int 2917)) (mOp mulA (mC (.int 41)) (mCB (one lenA) (mCons (mVar 0) mNil)))) mNil)))
    (mSeq (mFor .d (mSeqI (mD (mSl (mVar 0) mNoPart (mPart (mC (.int 60)))))) (gN 3) (mSeq (mAsg (mOp addA (mOp addA (mOp mulA (mC (.int 2)) (mCB (one (fl1 absD)) (mCons (mVar 3) mNil))) (mCB (one (fl1 intD)) (mCons (mOp (fl2 ltD) (mVar 3) (mC (.int 0))) mNil))) (mC (.int 1))) (gN 4))
    (mSeq (mAsg (mOp (fl2 modD) (mCB (one (fl1 intD)) (mCons (mOp addA (mOp mulA (mVar 2) (mC (.int 6364136223846793005))) (mVar 4)) mNil)) (mC (.int 2305843009213693951))) (gN 2))
    (mIfS (mTst (mOp (fl2 geD) (mCB (one (fl1 absD)) (mCons (mVar 3) mNil)) (mOp (fl2 powD) (mC (.int 10)) (mC (.int 18))))) (mAsg (mOp addA (mOp mulA (mVar 1) (mC (.int 37))) (mCB (one (fl1 absD)) (mCons (mVar 3) mNil))) (gN 1)) mNext))))
    (mRet (mLst (mCons (mD (mVar 1)) (mCons (mD (mVar 2)) (mCons (mC (.int 0)) mNil)))))))
theorem ss_deckL {K : KW} {B : Bs} {W : WX} : SS K B W (t_deckL K) (m_deckL) :=
  (ss_seq (ss_par (sa_cons (se_int _) (sa_cons (se_op so_add (se_int _) (se_op so_mul (se_int _) (se_cb (soa_one so1_len) (sa_cons (se_var _) sa_nil)))) sa_nil)) (by decide))
    (ss_seq (ss_for (si_seq (se_D (se_sl (se_var _) so_none (so_part (se_int _))))) (sg_name _) (ss_seq (ss_asg (se_op so_add (se_op so_add (se_op so_mul (se_int _) (se_cb (soa_one (so1_fl us_abs)) (sa_cons (se_var _) sa_nil))) (se_cb (soa_one (so1_fl us_int)) (sa_cons (se_op (so2_fl os_lt) (se_var _) (se_int _)) sa_nil))) (se_int _)) (sg_name _))
    (ss_seq (ss_asg (se_op (so2_fl os_mod) (se_cb (soa_one (so1_fl us_int)) (sa_cons (se_op so_add (se_op so_mul (se_var _) (se_int _)) (se_var _)) sa_nil)) (se_int _)) (sg_name _))
    (ss_if (st_Test (se_op (so2_fl os_ge) (se_cb (soa_one (so1_fl us_abs)) (sa_cons (se_var _) sa_nil)) (se_op (so2_fl os_pow) (se_int _) (se_int _)))) (ss_asg (se_op so_add (se_op so_mul (se_var _) (se_int _)) (se_cb (soa_one (so1_fl us_abs)) (sa_cons (se_var _) sa_nil))) (sg_name _)) ss_next))))
    (ss_ret (se_lst (sa_cons (se_D (se_var _)) (sa_cons (se_D (se_var _)) (sa_cons (se_int _) sa_nil)))))))
noncomputable def f_deckL : DF := runM 5 m_deckL

/-- slots of _law_draw: 0 _law_deck_here, 1 _law_many, 2 _law_digit, 3 _law_mixed -/
def n_drawL : List Str := ["_law_deck_here", "_law_many", "_law_digit", "_law_mixed"]
def t_drawL (K : KW) : TS :=
  (tSeq (tIfS (tTest (tOp rGtI (tOp (rIx K) (tVar 0) (tC (.int 0))) (tC (.int 0)))) (tSeq (tAsg (tOp rModI (tCB rInt1 (tCons (tOp (rIx K) (tVar 0) (tC (.int 0))) tNil)) (tVar 1)) (gName 2))
    (tSeq (tAsg (tOp rDivI (tOp (rIx K) (tVar 0) (tC (.int 0))) (tVar 1)) (gSub (tVar 0) (tC (.int 0)) rSetL))
    (tRet (tVar 2)))) tNext)
    (tSeq (tAsg (tOp (rAddU K) (tOp (rIx K) (tVar 0) (tC (.int 2))) (tC (.int 1))) (gSub (tVar 0) (tC (.int 2)) rSetL))
    (tSeq (tAsg (tOp rModI (tCB rInt1 (tCons (tOp (rAddU K) (tOp (rIx K) (tVar 0) (tC (.int 1))) (tOp rMulU (tC (.int 11400714819323198485)) (tOp (rIx K) (tVar 0) (tC (.int 2))))) tNil)) (tC (.int 18446744073709551557))) (gName 3))
    (tSeq (tAsg (tOp rModI (tCB rInt1 (tCons (tOp rMulU (tVar 3) (tOp (rAddU K) (tOp rModI (tVar 3) (tC (.int 4294967291))) (tC (.int 7)))) tNil)) (tC (.int 2305843009213693951))) (gName 3))
    (tRet (tOp rModI (tOp rDivI (tOp rModI (tCB rInt1 (tCons (tOp rMulU (tVar 3) (tVar 3)) tNil)) (tC (.int 2305843009213693921))) (tC (.int 2048))) (tVar 1)))))))
noncomputable def m_drawL : MS :=
  (mSeq (mIfS (mTst (mOp (fl2 gtD) (mOp ixA (mVar 0) (mC (.int 0))) (mC (.int 0)))) (mSeq (mAsg (mOp (fl2 modD) (mCB (one (fl1 intD)) (mCons (mOp ixA (mVar 0) (mC (.int 0))) mNil)) (mVar 1)) (gN 2))
    (mSeq (mSetL (mD (mOp (fl2 divD) (mOp ixA (mVar 0) (mC (.int 0))) (mVar 1))) (mVar 0) (mC (.int 0)))
    (mRet (mVar 2)))) mNext)
    (mSeq (mSetL (mD (mOp addA (mOp ixA (mVar 0) (mC (.int 2))) (mC (.int 1)))) (mVar 0) (mC (.int 2)))
    (mSeq (mAsg (mOp (fl2 modD) (mCB (one (fl1 intD)) (mCons (mOp addA (mOp ixA (mVar 0) (mC (.int 1))) (mOp mulA (mC (.int 11400714819323198485)) (mOp ixA (mVar 0) (mC (.int 2))))) mNil)) (mC (.int 18446744073709551557))) (gN 3))
    (mSeq (mAsg (mOp (fl2 modD) (mCB (one (fl1 intD)) (mCons (mOp mulA (mVar 3) (mOp addA (mOp (fl2 modD) (mVar 3) (mC (.int 4294967291))) (mC (.int 7)))) mNil)) (mC (.int 2305843009213693951))) (gN 3))
    (mRet (mOp (fl2 modD) (mOp (fl2 divD) (mOp (fl2 modD) (mCB (one (fl1 intD)) (mCons (mOp mulA (mVar 3) (mVar 3)) mNil)) (mC (.int 2305843009213693921))) (mC (.int 2048))) (mVar 1)))))))
theorem ss_drawL {K : KW} {B : Bs} {W : WX} : SS K B W (t_drawL K) (m_drawL) :=
  (ss_seq (ss_if (st_Test (se_op (so2_fl os_gt) (se_op so_ix (se_var _) (se_int _)) (se_int _))) (ss_seq (ss_asg (se_op (so2_fl os_mod) (se_cb (soa_one (so1_fl us_int)) (sa_cons (se_op so_ix (se_var _) (se_int _)) sa_nil)) (se_var _)) (sg_name _))
    (ss_seq (ss_setL (se_D (se_op (so2_fl os_div) (se_op so_ix (se_var _) (se_int _)) (se_var _))) (se_var _) (se_int _))
    (ss_ret (se_var _)))) ss_next)
    (ss_seq (ss_setL (se_D (se_op so_add (se_op so_ix (se_var _) (se_int _)) (se_int _))) (se_var _) (se_int _))
    (ss_seq (ss_asg (se_op (so2_fl os_mod) (se_cb (soa_one (so1_fl us_int)) (sa_cons (se_op so_add (se_op so_ix (se_var _) (se_int _)) (se_op so_mul (se_int _) (se_op so_ix (se_var _) (se_int _)))) sa_nil)) (se_int _)) (sg_name _))
    (ss_seq (ss_asg (se_op (so2_fl os_mod) (se_cb (soa_one (so1_fl us_int)) (sa_cons (se_op so_mul (se_var _) (se_op so_add (se_op (so2_fl os_mod) (se_var _) (se_int _)) (se_int _))) sa_nil)) (se_int _)) (sg_name _))
    (ss_ret (se_op (so2_fl os_mod) (se_op (so2_fl os_div) (se_op (so2_fl os_mod) (se_cb (soa_one (so1_fl us_int)) (sa_cons (se_op so_mul (se_var _) (se_var _)) sa_nil)) (se_int _)) (se_int _)) (se_var _)))))))
noncomputable def f_drawL : DF := runM 4 m_drawL

/-- slots of _law_name: 0 _law_deck_here, 1 _law_letters, 2 _law_k -/
def n_nameL : List Str := ["_law_deck_here", "_law_letters", "_law_k"]
def t_nameL (K : KW) : TS :=
  (tSeq (tAsg (tC (.str "abcdefghijklmnopqrstuvwxyz")) (gName 1))
    (tRet (tM1 (rJoin K) (tC (.str "")) (tLc (iRng1 (tCons (tOp (rAddU K) (tC (.int 1)) (tCall (spN K f_drawL 2) [] E0 (tCons (tVar 0) (tCons (tC (.int 8)) tNil)))) tNil)) (gName 2) tYes (tOp (rIx K) (tVar 1) (tCall (spN K f_drawL 2) [] E0 (tCons (tVar 0) (tCons (tC (.int 26)) tNil)))) [2]))))
noncomputable def m_nameL : MS :=
  (mSeq (mAsg (mC (.str "abcdefghijklmnopqrstuvwxyz")) (gN 1))
    (mRet (mJoin (mC (.str "")) (mLc .d (mRng1 (mOp addA (mC (.int 1)) (mCall (noXf f_drawL) [true, false] (mCons (mVar 0) (mCons (mC (.int 8)) mNil))))) (gN 2) mYes (mD (mOp ixA (mVar 1) (mCall (noXf f_drawL) [true, false] (mCons (mVar 0) (mCons (mC (.int 26)) mNil))))) [2]))))
theorem ss_nameL {K : KW} {B : Bs} {W : WX} : SS K B W (t_nameL K) (m_nameL) :=
  (ss_seq (ss_asg (se_str _ (by decide +kernel)) (sg_name _))
    (ss_ret (se_join (se_str _ (by decide +kernel)) (se_lc (si_rng1 (se_op so_add (se_int _) (se_call0 rfl (sa_cons (se_var _) (sa_cons (se_int _) sa_nil))))) (sgw_name _ (by decide)) st_yes (se_D (se_op so_ix (se_var _) (se_call0 rfl (sa_cons (se_var _) (sa_cons (se_int _) sa_nil)))))))))
noncomputable def f_nameL : DF := runM 3 m_nameL

/-- slots of _law_names: 0 _law_deck_here, 1 _law_many, 2 _law_letters, 3 _law_spare, 4 _law_way, 5 _law_base, 6 _law_place, 7 _law_at, 8 _law_names_here, 9 _law_k, 10 _law_kind, 11 _law_name_here -/
def n_namesL : List Str := ["_law_deck_here", "_law_many", "_law_letters", "_law_spare", "_law_way", "_law_base", "_law_place", "_law_at", "_law_names_here", "_law_k", "_law_kind", "_law_name_here"]
def t_namesL (K : KW) : TS :=
  (tSeq (tAsg (tC (.str "abcdefghijklmnopqrstuvwxyz")) (gName 2))
    (tSeq (tAsg (tLc (iRng1 (tCons (tC (.int 676)) tNil)) (gName 9) tYes (tOp (rAddU K) (tOp (rIx K) (tVar 2) (tOp rDivI (tVar 9) (tC (.int 26)))) (tOp (rIx K) (tVar 2) (tOp rModI (tVar 9) (tC (.int 26))))) [9]) (gName 3))
    (tSeq (tPar 4 5 (tCons (tCall (spN K f_drawL 2) [] E0 (tCons (tVar 0) (tCons (tC (.int 4)) tNil))) (tCons (tSl (rSlU K) (tOp rMulU (tCall (spN K f_nameL 1) [] E0 (tCons (tVar 0) tNil)) (tC (.int 8))) tNoPart (tPart (tC (.int 8)))) tNil)))
    (tSeq (tPar3 6 7 8 (tCons (tCall (spN K f_drawL 2) [] E0 (tCons (tVar 0) (tCons (tC (.int 8)) tNil))) (tCons (tC (.int 0)) (tCons (tLst tNil) tNil))))
    (tSeq (tFor (iRng1 (tCons (tVar 1) tNil)) (gName 9) (tSeq (tAsg (tIf (tTest (tOp (rEqU K) (tVar 4) (tC (.int 3)))) (tCall (spN K f_drawL 2) [] E0 (tCons (tVar 0) (tCons (tC (.int 3)) tNil))) (tVar 4)) (gName 10))
    (tSeq (tIfS (tTest (tOp (rEqU K) (tVar 10) (tC (.int 0)))) (tAsg (tCall (spN K f_nameL 1) [] E0 (tCons (tVar 0) tNil)) (gName 11)) (tIfS (tTest (tOp (rEqU K) (tVar 10) (tC (.int 1)))) (tAsg (tOp (rAddU K) (tOp (rAddU K) (tSl (rSlU K) (tVar 5) tNoPart (tPart (tVar 6))) (tOp (rIx K) (tVar 2) (tCall (spN K f_drawL 2) [] E0 (tCons (tVar 0) (tCons (tC (.int 26)) tNil))))) (tSl (rSlU K) (tVar 5) (tPart (tOp (rAddU K) (tVar 6) (tC (.int 1)))) tNoPart)) (gName 11)) (tAsg (tSl (rSlU K) (tVar 5) tNoPart (tPart (tOp (rAddU K) (tC (.int 1)) (tCall (spN K f_drawL 2) [] E0 (tCons (tVar 0) (tCons (tC (.int 8)) tNil)))))) (gName 11))))
    (tSeq (tWhile (tTest (tOp (rInU K false) (tVar 11) (tVar 8))) (tSeq (tAsg (tOp (rIx K) (tVar 3) (tVar 7)) (gName 11))
    (tAsg (tOp (rAddU K) (tVar 7) (tC (.int 1))) (gName 7))))
    (tDrop (tBM K "list" rAppend (tVar 8) (tCons (tVar 11) tNil)))))))
    (tRet (tVar 8)))))))
noncomputable def m_namesL : MS :=
  (mSeq (mAsg (mC (.str "abcdefghijklmnopqrstuvwxyz")) (gN 2))
    (mSeq (mAsg (mLc .d (mRng1 (mC (.int 676))) (gN 9) mYes (mD (mOp addA (mOp ixA (mVar 2) (mOp (fl2 divD) (mVar 9) (mC (.int 26)))) (mOp ixA (mVar 2) (mOp (fl2 modD) (mVar 9) (mC (.int 26)))))) [9]) (gN 3))
    (mSeq (mPar 4 5 (mCons (mCall (noXf f_drawL) [true, false] (mCons (mVar 0) (mCons (mC (.int 4)) mNil))) (mCons (mSl (mOp mulA (mCall (noXf f_nameL) [true] (mCons (mVar 0) mNil)) (mC (.int 8))) mNoPart (mPart (mC (.int 8)))) mNil)))
    (mSeq (mPar3 6 7 8 (mCons (mCall (noXf f_drawL) [true, false] (mCons (mVar 0) (mCons (mC (.int 8)) mNil))) (mCons (mC (.int 0)) (mCons (mLst mNil) mNil))))
    (mSeq (mFor .d (mRng1 (mVar 1)) (gN 9) (mSeq (mAsg (mIfE (mTst (mOp (fl2 eqD) (mVar 4) (mC (.int 3)))) (mCall (noXf f_drawL) [true, false] (mCons (mVar 0) (mCons (mC (.int 3)) mNil))) (mVar 4)) (gN 10))
    (mSeq (mIfS (mTst (mOp (fl2 eqD) (mVar 10) (mC (.int 0)))) (mAsg (mCall (noXf f_nameL) [true] (mCons (mVar 0) mNil)) (gN 11)) (mIfS (mTst (mOp (fl2 eqD) (mVar 10) (mC (.int 1)))) (mAsg (mOp addA (mOp addA (mSl (mVar 5) mNoPart (mPart (mVar 6))) (mOp ixA (mVar 2) (mCall (noXf f_drawL) [true, false] (mCons (mVar 0) (mCons (mC (.int 26)) mNil))))) (mSl (mVar 5) (mPart (mOp addA (mVar 6) (mC (.int 1)))) mNoPart)) (gN 11)) (mAsg (mSl (mVar 5) mNoPart (mPart (mOp addA (mC (.int 1)) (mCall (noXf f_drawL) [true, false] (mCons (mVar 0) (mCons (mC (.int 8)) mNil)))))) (gN 11))))
    (mSeq (mWhile (mTst (mOp (fl2 (inD false)) (mVar 11) (mVar 8))) (mSeq (mAsg (mOp ixA (mVar 3) (mVar 7)) (gN 11))
    (mAsg (mOp addA (mVar 7) (mC (.int 1))) (gN 7))))
    (mDrop (mMeth appA (mVar 8) (mCons (mD (mVar 11)) mNil)))))))
    (mRet (mVar 8)))))))
theorem ss_namesL {K : KW} {B : Bs} {W : WX} : SS K B W (t_namesL K) (m_namesL) :=
  (ss_seq (ss_asg (se_str _ (by decide +kernel)) (sg_name _))
    (ss_seq (ss_asg (se_lc (si_rng1 (se_int _)) (sgw_name _ (by decide)) st_yes (se_D (se_op so_add (se_op so_ix (se_var _) (se_op (so2_fl os_div) (se_var _) (se_int _))) (se_op so_ix (se_var _) (se_op (so2_fl os_mod) (se_var _) (se_int _)))))) (sg_name _))
    (ss_seq (ss_par (sa_cons (se_call0 rfl (sa_cons (se_var _) (sa_cons (se_int _) sa_nil))) (sa_cons (se_sl (se_op so_mul (se_call0 rfl (sa_cons (se_var _) sa_nil)) (se_int _)) so_none (so_part (se_int _))) sa_nil)) (by decide))
    (ss_seq (ss_par3 (sa_cons (se_call0 rfl (sa_cons (se_var _) (sa_cons (se_int _) sa_nil))) (sa_cons (se_int _) (sa_cons (se_lst sa_nil) sa_nil))) (by decide) (by decide) (by decide))
    (ss_seq (ss_for (si_rng1 (se_var _)) (sg_name _) (ss_seq (ss_asg (se_if (st_Test (se_op (so2_fl os_eq) (se_var _) (se_int _))) (se_call0 rfl (sa_cons (se_var _) (sa_cons (se_int _) sa_nil))) (se_var _)) (sg_name _))
    (ss_seq (ss_if (st_Test (se_op (so2_fl os_eq) (se_var _) (se_int _))) (ss_asg (se_call0 rfl (sa_cons (se_var _) sa_nil)) (sg_name _)) (ss_if (st_Test (se_op (so2_fl os_eq) (se_var _) (se_int _))) (ss_asg (se_op so_add (se_op so_add (se_sl (se_var _) so_none (so_part (se_var _))) (se_op so_ix (se_var _) (se_call0 rfl (sa_cons (se_var _) (sa_cons (se_int _) sa_nil))))) (se_sl (se_var _) (so_part (se_op so_add (se_var _) (se_int _))) so_none)) (sg_name _)) (ss_asg (se_sl (se_var _) so_none (so_part (se_op so_add (se_int _) (se_call0 rfl (sa_cons (se_var _) (sa_cons (se_int _) sa_nil)))))) (sg_name _))))
    (ss_seq (ss_while (st_Test (se_op (so2_fl (os_in false)) (se_var _) (se_var _))) (ss_seq (ss_asg (se_op so_ix (se_var _) (se_var _)) (sg_name _))
    (ss_asg (se_op so_add (se_var _) (se_int _)) (sg_name _))))
    (ss_drop (se_meth sm_app (se_var _) (sa_cons (se_D (se_var _)) sa_nil)))))))
    (ss_ret (se_var _)))))))
noncomputable def f_namesL : DF := runM 12 m_namesL

/-- slots of _law_pick: 0 _law_deck_here, 1 _law_items -/
def n_pickL : List Str := ["_law_deck_here", "_law_items"]
def t_pickL (K : KW) : TS :=
  (tRet (tOp (rIx K) (tVar 1) (tCall (spN K f_drawL 2) [] E0 (tCons (tVar 0) (tCons (tCB (rLenU K) (tCons (tVar 1) tNil)) tNil)))))
noncomputable def m_pickL : MS :=
  (mRet (mOp ixA (mVar 1) (mCall (noXf f_drawL) [true, false] (mCons (mVar 0) (mCons (mD (mCB (one lenA) (mCons (mVar 1) mNil))) mNil)))))
theorem ss_pickL {K : KW} {B : Bs} {W : WX} : SS K B W (t_pickL K) (m_pickL) :=
  (ss_ret (se_op so_ix (se_var _) (se_call0 rfl (sa_cons (se_var _) (sa_cons (se_D (se_cb (soa_one so1_len) (sa_cons (se_var _) sa_nil))) sa_nil)))))
noncomputable def f_pickL : DF := runM 2 m_pickL

/-- slots of _law_odd: 0 _law_deck_here, 1 _law_some -/
def n_oddL : List Str := ["_law_deck_here", "_law_some"]
def t_oddL (K : KW) : TS :=
  (tSeq (tAsg (tLst (tCons (tC .non) (tCons (tC (.bl true)) (tCons (tC (.bl false)) (tCons (tC (.int 0)) (tCons (tC (.int 1)) (tCons (tOp rSubI (tC (.int 0)) (tC (.int 7))) (tCons (tOp rPowI (tC (.int 10)) (tC (.int 39))) (tCons (tC (.str "")) (tCons (tC (.str "A")) (tCons (tC (.str "a ")) (tCons (tC (.str "+a")) (tCons (tC (.str "aaaaaaaaa")) (tCons (tC (.str "a1")) (tCons (tC (.str "z")) (tCons (tC (.str "zzzzzzzz")) tNil)))))))))))))))) (gName 1))
    (tSeq (tAsg (tOp (rAddU K) (tVar 1) (tLst (tCons (tC (.str "`")) (tCons (tC (.str "a\n")) (tCons (tC (.str "{")) (tCons (tC (.str "a{")) (tCons (tLst (tCons (tC (.str "z")) (tCons (tTupF tNil) tNil))) (tCons (tDisp [((tC (.str "a")), (tC (.int 1))), ((tC (.str "b")), (tC (.int 2)))]) tNil)))))))) (gName 1))
    (tSeq (tAsg (tOp (rAddU K) (tVar 1) (tLst (tCons (tTupF (tCons (tC (.str "a")) tNil)) (tCons (tTupF (tCons (tC (.str "z")) (tCons (tTupF tNil) tNil))) (tCons (tLst (tCons (tC (.str "a")) tNil)) (tCons (tLst tNil) (tCons tDNewK (tCons (tDisp [((tC (.str "a")), (tC (.int 1)))]) (tCons (tTupF tNil) (tCons (tTupF (tCons (tTupF tNil) (tCons (tTupF tNil) tNil))) (tCons (tTupF (tCons (tTupF (tCons (tC (.str "z")) (tCons (tTupF tNil) tNil))) tNil)) (tCons (tC (.str "first")) tNil)))))))))))) (gName 1))
    (tRet (tCall (spN K f_pickL 2) [] E0 (tCons (tVar 0) (tCons (tVar 1) tNil)))))))
noncomputable def m_oddL : MS :=
  (mSeq (mAsg (mD (mLst (mCons (mC .none) (mCons (mC (.bool true)) (mCons (mC (.bool false)) (mCons (mC (.int 0)) (mCons (mC (.int 1)) (mCons (mD (mOp (fl2 subD) (mC (.int 0)) (mC (.int 7)))) (mCons (mD (mOp (fl2 powD) (mC (.int 10)) (mC (.int 39)))) (mCons (mC (.str "")) (mCons (mC (.str "A")) (mCons (mC (.str "a ")) (mCons (mC (.str "+a")) (mCons (mC (.str "aaaaaaaaa")) (mCons (mC (.str "a1")) (mCons (mC (.str "z")) (mCons (mC (.str "zzzzzzzz")) mNil))))))))))))))))) (gN 1))
    (mSeq (mAsg (mD (mOp addA (mVar 1) (mLst (mCons (mC (.str "`")) (mCons (mC (.str "a\n")) (mCons (mC (.str "{")) (mCons (mC (.str "a{")) (mCons (mD (mLst (mCons (mC (.str "z")) (mCons (mTup mNil) mNil)))) (mCons (mD (mDisp [((mC (.str "a")), (mC (.int 1))), ((mC (.str "b")), (mC (.int 2)))])) mNil))))))))) (gN 1))
    (mSeq (mAsg (mD (mOp addA (mVar 1) (mLst (mCons (mTup (mCons (mC (.str "a")) mNil)) (mCons (mTup (mCons (mC (.str "z")) (mCons (mTup mNil) mNil))) (mCons (mD (mLst (mCons (mC (.str "a")) mNil))) (mCons (mD (mLst mNil)) (mCons (mD mDnew) (mCons (mD (mDisp [((mC (.str "a")), (mC (.int 1)))])) (mCons (mTup mNil) (mCons (mTup (mCons (mTup mNil) (mCons (mTup mNil) mNil))) (mCons (mTup (mCons (mTup (mCons (mC (.str "z")) (mCons (mTup mNil) mNil))) mNil)) (mCons (mC (.str "first")) mNil))))))))))))) (gN 1))
    (mRet (mCall (noXf f_pickL) [true, false] (mCons (mVar 0) (mCons (mD (mVar 1)) mNil)))))))
theorem ss_oddL {K : KW} {B : Bs} {W : WX} : SS K B W (t_oddL K) (m_oddL) :=
  (ss_seq (ss_asg (se_D (se_lst (sa_cons se_non (sa_cons (se_bl _) (sa_cons (se_bl _) (sa_cons (se_int _) (sa_cons (se_int _) (sa_cons (se_D (se_op (so2_fl os_sub) (se_int _) (se_int _))) (sa_cons (se_D (se_op (so2_fl os_pow) (se_int _) (se_int _))) (sa_cons (se_str _ (by decide +kernel)) (sa_cons (se_str _ (by decide +kernel)) (sa_cons (se_str _ (by decide +kernel)) (sa_cons (se_str _ (by decide +kernel)) (sa_cons (se_str _ (by decide +kernel)) (sa_cons (se_str _ (by decide +kernel)) (sa_cons (se_str _ (by decide +kernel)) (sa_cons (se_str _ (by decide +kernel)) sa_nil))))))))))))))))) (sg_name _))
    (ss_seq (ss_asg (se_D (se_op so_add (se_var _) (se_lst (sa_cons (se_str _ (by decide +kernel)) (sa_cons (se_str _ (by decide +kernel)) (sa_cons (se_str _ (by decide +kernel)) (sa_cons (se_str _ (by decide +kernel)) (sa_cons (se_D (se_lst (sa_cons (se_str _ (by decide +kernel)) (sa_cons (se_tup sa_nil) sa_nil)))) (sa_cons (se_D (se_disp (SPs.cons (se_str _ (by decide +kernel)) (se_int _) (SPs.cons (se_str _ (by decide +kernel)) (se_int _) SPs.nil)))) sa_nil))))))))) (sg_name _))
    (ss_seq (ss_asg (se_D (se_op so_add (se_var _) (se_lst (sa_cons (se_tup (sa_cons (se_str _ (by decide +kernel)) sa_nil)) (sa_cons (se_tup (sa_cons (se_str _ (by decide +kernel)) (sa_cons (se_tup sa_nil) sa_nil))) (sa_cons (se_D (se_lst (sa_cons (se_str _ (by decide +kernel)) sa_nil))) (sa_cons (se_D (se_lst sa_nil)) (sa_cons (se_D se_dnew) (sa_cons (se_D (se_disp (SPs.cons (se_str _ (by decide +kernel)) (se_int _) SPs.nil))) (sa_cons (se_tup sa_nil) (sa_cons (se_tup (sa_cons (se_tup sa_nil) (sa_cons (se_tup sa_nil) sa_nil))) (sa_cons (se_tup (sa_cons (se_tup (sa_cons (se_str _ (by decide +kernel)) (sa_cons (se_tup sa_nil) sa_nil))) sa_nil)) (sa_cons (se_str _ (by decide +kernel)) sa_nil))))))))))))) (sg_name _))
    (ss_ret (se_call0 rfl (sa_cons (se_var _) (sa_cons (se_D (se_var _)) sa_nil)))))))
noncomputable def f_oddL : DF := runM 2 m_oddL

/-- slots of Script___contains__: 0 self, 1 x -/
def n_Script___contains___x : List Str := ["self", "x"]
def t_Script___contains___x (W : WX) (K : KW) : TS :=
  (tRet (tOrV (tOp (rInU K false) (tVar 1) (tCall (spN K f_old_names 1) [] E0 (tCons (tFld K (tVar 0) "row") tNil))) (tOp (rInU K false) (tVar 1) (tCall (spN K f_new_names 1) [] E0 (tCons (tFld K (tVar 0) "row") tNil)))))
noncomputable def m_Script___contains___x : MS :=
  (mRet (mOrE (mOp (fl2 (inD false)) (mVar 1) (mCall (noXf f_old_names) [false] (mCons (mD (mFld [("Script" : Str)] "row" (mVar 0))) mNil))) (mOp (fl2 (inD false)) (mVar 1) (mCall (noXf f_new_names) [false] (mCons (mD (mFld [("Script" : Str)] "row" (mVar 0))) mNil)))))
theorem ss_Script___contains___x {K : KW} {B : Bs} {W : WX} (of_Script_row : ObC K "Script" "row") : SS K B W (t_Script___contains___x W K) (m_Script___contains___x) :=
  (ss_ret (se_or (se_op (so2_fl (os_in false)) (se_var _) (se_call0 rfl (sa_cons (se_D (se_fld (obs_cons of_Script_row obs_nil) (se_var _))) sa_nil))) (se_op (so2_fl (os_in false)) (se_var _) (se_call0 rfl (sa_cons (se_D (se_fld (obs_cons of_Script_row obs_nil) (se_var _))) sa_nil)))))
noncomputable def f_Script___contains___x : DF := runM 2 m_Script___contains___x

/-- slots of Script___len__: 0 self -/
def n_Script___len___x : List Str := ["self"]
def t_Script___len___x (W : WX) (K : KW) : TS :=
  (tRet (tCB (rLenU K) (tCons (tFld K (tVar 0) "row") tNil)))
noncomputable def m_Script___len___x : MS :=
  (mRet (mCB (one lenA) (mCons (mFld [("Script" : Str)] "row" (mVar 0)) mNil)))
theorem ss_Script___len___x {K : KW} {B : Bs} {W : WX} (of_Script_row : ObC K "Script" "row") : SS K B W (t_Script___len___x W K) (m_Script___len___x) :=
  (ss_ret (se_cb (soa_one so1_len) (sa_cons (se_fld (obs_cons of_Script_row obs_nil) (se_var _)) sa_nil)))
noncomputable def f_Script___len___x : DF := runM 1 m_Script___len___x

/-- slots of Script_deeds: 0 self -/
def n_Script_deeds_x : List Str := ["self"]
def t_Script_deeds_x (W : WX) (K : KW) : TS :=
  (tRet (tFld K (tVar 0) "row"))
noncomputable def m_Script_deeds_x : MS :=
  (mRet (mFld [("Script" : Str)] "row" (mVar 0)))
theorem ss_Script_deeds_x {K : KW} {B : Bs} {W : WX} (of_Script_row : ObC K "Script" "row") : SS K B W (t_Script_deeds_x W K) (m_Script_deeds_x) :=
  (ss_ret (se_fld (obs_cons of_Script_row obs_nil) (se_var _)))
noncomputable def f_Script_deeds_x : DF := runM 1 m_Script_deeds_x

/-- slots of Script_new: 0 self -/
def n_Script_new_x : List Str := ["self"]
def t_Script_new_x (W : WX) (K : KW) : TS :=
  (tRet (tCall (spN K f_new_names 1) [] E0 (tCons (tFld K (tVar 0) "row") tNil)))
noncomputable def m_Script_new_x : MS :=
  (mRet (mCall (noXf f_new_names) [false] (mCons (mD (mFld [("Script" : Str)] "row" (mVar 0))) mNil)))
theorem ss_Script_new_x {K : KW} {B : Bs} {W : WX} (of_Script_row : ObC K "Script" "row") : SS K B W (t_Script_new_x W K) (m_Script_new_x) :=
  (ss_ret (se_call0 rfl (sa_cons (se_D (se_fld (obs_cons of_Script_row obs_nil) (se_var _))) sa_nil)))
noncomputable def f_Script_new_x : DF := runM 1 m_Script_new_x

/-- slots of Script_old: 0 self -/
def n_Script_old_x : List Str := ["self"]
def t_Script_old_x (W : WX) (K : KW) : TS :=
  (tRet (tCall (spN K f_old_names 1) [] E0 (tCons (tFld K (tVar 0) "row") tNil)))
noncomputable def m_Script_old_x : MS :=
  (mRet (mCall (noXf f_old_names) [false] (mCons (mD (mFld [("Script" : Str)] "row" (mVar 0))) mNil)))
theorem ss_Script_old_x {K : KW} {B : Bs} {W : WX} (of_Script_row : ObC K "Script" "row") : SS K B W (t_Script_old_x W K) (m_Script_old_x) :=
  (ss_ret (se_call0 rfl (sa_cons (se_D (se_fld (obs_cons of_Script_row obs_nil) (se_var _))) sa_nil)))
noncomputable def f_Script_old_x : DF := runM 1 m_Script_old_x

/-- slots of _law_roles: 0 _law_deeds, 1 _law_old, 2 _law_new, 3 _law_deed, 4 _law_made, 5 _law_k -/
def n_rolesL : List Str := ["_law_deeds", "_law_old", "_law_new", "_law_deed", "_law_made", "_law_k"]
def t_rolesL (K : KW) : TS :=
  (tSeq (tPar 1 2 (tCons (tLst tNil) (tCons (tLst tNil) tNil)))
    (tSeq (tFor (iSeq K (tVar 0)) (gName 3) (tSeq (tAsg (tDGet2 (tDisp [((tC (.str "wrap")), (tC (.int 2))), ((tC (.str "put")), (tC (.int 1)))]) (tOp (rIx K) (tVar 3) (tC (.int 0))) (tC (.int 0))) (gName 4))
    (tFor (iRng2 (tCons (tC (.int 1)) (tCons (tCB (rLenU K) (tCons (tVar 3) tNil)) tNil))) (gName 5) (tIfS (tTest (tOp (rInU K true) (tOp (rIx K) (tVar 3) (tVar 5)) (tOp (rAddU K) (tVar 1) (tVar 2)))) (tIfS (tTest (tOp (rEqU K) (tVar 5) (tVar 4))) (tDrop (tBM K "list" rAppend (tVar 2) (tCons (tOp (rIx K) (tVar 3) (tVar 5)) tNil))) (tDrop (tBM K "list" rAppend (tVar 1) (tCons (tOp (rIx K) (tVar 3) (tVar 5)) tNil)))) tNext))))
    (tRet (tTupF (tCons (tCB (rTupOfF K) (tCons (tCB (rSortedS K) (tCons (tVar 1) tNil)) tNil)) (tCons (tCB (rTupOfF K) (tCons (tCB (rSortedS K) (tCons (tVar 2) tNil)) tNil)) tNil))))))
noncomputable def m_rolesL : MS :=
  (mSeq (mPar 1 2 (mCons (mLst mNil) (mCons (mLst mNil) mNil)))
    (mSeq (mFor .d (mSeqI (mVar 0)) (gN 3) (mSeq (mAsg (mDGet2 (mD (mDisp [((mC (.str "wrap")), (mC (.int 2))), ((mC (.str "put")), (mC (.int 1)))])) (mOp ixA (mVar 3) (mC (.int 0))) (mC (.int 0))) (gN 4))
    (mFor .d (mRng2 (mC (.int 1)) (mCB (one lenA) (mCons (mVar 3) mNil))) (gN 5) (mIfS (mTst (mOp (fl2 (inD true)) (mOp ixA (mVar 3) (mVar 5)) (mOp addA (mVar 1) (mVar 2)))) (mIfS (mTst (mOp (fl2 eqD) (mVar 5) (mVar 4))) (mDrop (mMeth appA (mVar 2) (mCons (mD (mOp ixA (mVar 3) (mVar 5))) mNil))) (mDrop (mMeth appA (mVar 1) (mCons (mD (mOp ixA (mVar 3) (mVar 5))) mNil)))) mNext))))
    (mRet (mTup (mCons (mD (mCB (one tupA) (mCons (mCB (one sortA) (mCons (mVar 1) mNil)) mNil))) (mCons (mD (mCB (one tupA) (mCons (mCB (one sortA) (mCons (mVar 2) mNil)) mNil))) mNil))))))
theorem ss_rolesL {K : KW} {B : Bs} {W : WX} : SS K B W (t_rolesL K) (m_rolesL) :=
  (ss_seq (ss_par (sa_cons (se_lst sa_nil) (sa_cons (se_lst sa_nil) sa_nil)) (by decide))
    (ss_seq (ss_for (si_seq (se_var _)) (sg_name _) (ss_seq (ss_asg (se_dget2 (se_D (se_disp (SPs.cons (se_str _ (by decide +kernel)) (se_int _) (SPs.cons (se_str _ (by decide +kernel)) (se_int _) SPs.nil)))) (se_op so_ix (se_var _) (se_int _)) (se_int _)) (sg_name _))
    (ss_for (si_rng2 (se_int _) (se_cb (soa_one so1_len) (sa_cons (se_var _) sa_nil))) (sg_name _) (ss_if (st_Test (se_op (so2_fl (os_in true)) (se_op so_ix (se_var _) (se_var _)) (se_op so_add (se_var _) (se_var _)))) (ss_if (st_Test (se_op (so2_fl os_eq) (se_var _) (se_var _))) (ss_drop (se_meth sm_app (se_var _) (sa_cons (se_D (se_op so_ix (se_var _) (se_var _))) sa_nil))) (ss_drop (se_meth sm_app (se_var _) (sa_cons (se_D (se_op so_ix (se_var _) (se_var _))) sa_nil)))) ss_next))))
    (ss_ret (se_tup (sa_cons (se_D (se_cb (soa_one so1_tup) (sa_cons (se_cb (soa_one so1_sort) (sa_cons (se_var _) sa_nil)) sa_nil))) (sa_cons (se_D (se_cb (soa_one so1_tup) (sa_cons (se_cb (soa_one so1_sort) (sa_cons (se_var _) sa_nil)) sa_nil))) sa_nil))))))
noncomputable def f_rolesL : DF := runM 6 m_rolesL

/-- slots of _law_right: 0 _law_found, 1 _law_deeds, 2 _law_things, 3 _law_old, 4 _law_new, 5 _law_thing -/
def n_rightL_v3_x : List Str := ["_law_found", "_law_deeds", "_law_things", "_law_old", "_law_new", "_law_thing"]
def t_rightL_v3_x (K : KW) : TS :=
  (tSeq (tAsg (tCall (spN K f_rolesL 1) [] E0 (tCons (tVar 1) tNil)) (gTup K 2 (gNames [3, 4])))
    (tSeq (tIfS (tOr (tNot (tB (tCB (rIsi K) (tCons (tVar 0) (tCons (tC (.ref (He.ga K "Script"))) tNil))))) (tOr (tTest (tOp (rNeU K) (tCall (spN K f_Script_deeds_x 1) [] E0 (tPrp K "Script" (tVar 0))) (tVar 1))) (tOr (tTest (tOp (rNeU K) (tCall (spN K f_Script_old_x 1) [] E0 (tPrp K "Script" (tVar 0))) (tVar 3))) (tTest (tOp (rNeU K) (tCall (spN K f_Script_new_x 1) [] E0 (tPrp K "Script" (tVar 0))) (tVar 4)))))) (tRet (tC (.bl false))) tNext)
    (tSeq (tIfS (tTest (tOp (rNeU K) (tCB (rLenO K "Script" (spN K f_Script___len___x 1)) (tCons (tVar 0) tNil)) (tCB (rLenU K) (tCons (tVar 1) tNil)))) (tRet (tC (.bl false))) tNext)
    (tSeq (tFor (iSeq K (tVar 2)) (gName 5) (tIfS (tTest (tOp (rNeU K) (tOp (rInO K "Script" (spN K f_Script___contains___x 2)) (tVar 5) (tVar 0)) (tOp (rInU K false) (tVar 5) (tOp (rAddU K) (tVar 3) (tVar 4))))) (tRet (tC (.bl false))) tNext))
    (tRet (tC (.bl true)))))))
noncomputable def m_rightL_v3_x : MS :=
  (mSeq (mAsg (mCall (noXf f_rolesL) [false] (mCons (mVar 1) mNil)) (gT [3, 4]))
    (mSeq (mIfS (mOr (mNot (mTst (mIsO [("Script", true)] (mVar 0)))) (mOr (mTst (mOp (fl2 neD) (mCall (noXf f_Script_deeds_x) [true] (mPrp "Script" (mVar 0))) (mVar 1))) (mOr (mTst (mOp (fl2 neD) (mCall (noXf f_Script_old_x) [true] (mPrp "Script" (mVar 0))) (mVar 3))) (mTst (mOp (fl2 neD) (mCall (noXf f_Script_new_x) [true] (mPrp "Script" (mVar 0))) (mVar 4)))))) (mRet (mC (.bool false))) mNext)
    (mSeq (mIfS (mTst (mOp (fl2 neD) (mLo (mCall (noXf f_Script___len___x) [true] (mPrp "Script" (mVar 0)))) (mCB (one lenA) (mCons (mVar 1) mNil)))) (mRet (mC (.bool false))) mNext)
    (mSeq (mFor .d (mSeqI (mVar 2)) (gN 5) (mIfS (mTst (mOp (fl2 neD) (mBo (mCall (noXf f_Script___contains___x) [true, false] (mDun "Script" (mVar 0) (mCons (mVar 5) mNil)))) (mOp (fl2 (inD false)) (mVar 5) (mOp addA (mVar 3) (mVar 4))))) (mRet (mC (.bool false))) mNext))
    (mRet (mC (.bool true)))))))
theorem ss_rightL_v3_x {K : KW} {B : Bs} {W : WX} (iso_Script_Script : IsO K "Script" (He.ga K "Script") true) : SS K B W (t_rightL_v3_x K) (m_rightL_v3_x) :=
  (ss_seq (ss_asg (se_call0 rfl (sa_cons (se_var _) sa_nil)) (sg_tup _ rfl))
    (ss_seq (ss_if (st_or (st_not (st_B (se_isO (se_var _) (is1 iso_Script_Script)))) (st_or (st_Test (se_op (so2_fl os_ne) (se_call0 rfl (sa_prp (se_var _))) (se_var _))) (st_or (st_Test (se_op (so2_fl os_ne) (se_call0 rfl (sa_prp (se_var _))) (se_var _))) (st_Test (se_op (so2_fl os_ne) (se_call0 rfl (sa_prp (se_var _))) (se_var _)))))) (ss_ret (se_bl _)) ss_next)
    (ss_seq (ss_if (st_Test (se_op (so2_fl os_ne) se_lenO (se_cb (soa_one so1_len) (sa_cons (se_var _) sa_nil)))) (ss_ret (se_bl _)) ss_next)
    (ss_seq (ss_for (si_seq (se_var _)) (sg_name _) (ss_if (st_Test (se_op (so2_fl os_ne) se_inO (se_op (so2_fl (os_in false)) (se_var _) (se_op so_add (se_var _) (se_var _))))) (ss_ret (se_bl _)) ss_next))
    (ss_ret (se_bl _))))))
noncomputable def f_rightL_v3_x : DF := runM 6 m_rightL_v3_x

/-- slots of _law_words: 0 _law_words_here -/
def n_wordsL : List Str := ["_law_words_here"]
def t_wordsL (K : KW) : TS :=
  (tSeq (tAsg (tLst (tCons (tC (.str "first")) (tCons (tC (.str "last")) (tCons (tC (.str "ahead")) (tCons (tC (.str "behind")) (tCons (tC (.str "front")) (tCons (tC (.str "back")) (tCons (tC (.str "swap")) tNil)))))))) (gName 0))
    (tRet (tOp (rAddU K) (tVar 0) (tLst (tCons (tC (.str "turn")) (tCons (tC (.str "lift")) (tCons (tC (.str "cut")) (tCons (tC (.str "pour")) (tCons (tC (.str "wrap")) (tCons (tC (.str "put")) tNil))))))))))
noncomputable def m_wordsL : MS :=
  (mSeq (mAsg (mLst (mCons (mC (.str "first")) (mCons (mC (.str "last")) (mCons (mC (.str "ahead")) (mCons (mC (.str "behind")) (mCons (mC (.str "front")) (mCons (mC (.str "back")) (mCons (mC (.str "swap")) mNil)))))))) (gN 0))
    (mRet (mOp addA (mVar 0) (mLst (mCons (mC (.str "turn")) (mCons (mC (.str "lift")) (mCons (mC (.str "cut")) (mCons (mC (.str "pour")) (mCons (mC (.str "wrap")) (mCons (mC (.str "put")) mNil))))))))))
theorem ss_wordsL {K : KW} {B : Bs} {W : WX} : SS K B W (t_wordsL K) (m_wordsL) :=
  (ss_seq (ss_asg (se_lst (sa_cons (se_str _ (by decide +kernel)) (sa_cons (se_str _ (by decide +kernel)) (sa_cons (se_str _ (by decide +kernel)) (sa_cons (se_str _ (by decide +kernel)) (sa_cons (se_str _ (by decide +kernel)) (sa_cons (se_str _ (by decide +kernel)) (sa_cons (se_str _ (by decide +kernel)) sa_nil)))))))) (sg_name _))
    (ss_ret (se_op so_add (se_var _) (se_lst (sa_cons (se_str _ (by decide +kernel)) (sa_cons (se_str _ (by decide +kernel)) (sa_cons (se_str _ (by decide +kernel)) (sa_cons (se_str _ (by decide +kernel)) (sa_cons (se_str _ (by decide +kernel)) (sa_cons (se_str _ (by decide +kernel)) sa_nil))))))))))
noncomputable def f_wordsL : DF := runM 1 m_wordsL

/-- slots of _law_some_deed: 0 _law_deck_here, 1 _law_names_here, 2 _law_word -/
def n_some_deedL_v1 : List Str := ["_law_deck_here", "_law_names_here", "_law_word"]
def t_some_deedL_v1 (K : KW) : TS :=
  (tSeq (tAsg (tCall (spN K f_pickL 2) [] E0 (tCons (tVar 0) (tCons (tCall (spN K f_wordsL 0) [] E0 tNil) tNil))) (gName 2))
    (tSeq (tIfS (tTest (tOp (rInU K false) (tVar 2) (tTupF (tCons (tC (.str "front")) (tCons (tC (.str "back")) (tCons (tC (.str "lift")) (tCons (tC (.str "cut")) tNil))))))) (tRet (tTupF (tCons (tVar 2) (tCons (tCall (spN K f_pickL 2) [] E0 (tCons (tVar 0) (tCons (tVar 1) tNil))) tNil)))) tNext)
    (tRet (tTupF (tCons (tVar 2) (tCons (tCall (spN K f_pickL 2) [] E0 (tCons (tVar 0) (tCons (tVar 1) tNil))) (tCons (tCall (spN K f_pickL 2) [] E0 (tCons (tVar 0) (tCons (tVar 1) tNil))) tNil)))))))
noncomputable def m_some_deedL_v1 : MS :=
  (mSeq (mAsg (mCall (noXf f_pickL) [true, false] (mCons (mVar 0) (mCons (mD (mCall (noXf f_wordsL) [] mNil)) mNil))) (gN 2))
    (mSeq (mIfS (mTst (mOp (fl2 (inD false)) (mVar 2) (mTup (mCons (mC (.str "front")) (mCons (mC (.str "back")) (mCons (mC (.str "lift")) (mCons (mC (.str "cut")) mNil))))))) (mRet (mTup (mCons (mD (mVar 2)) (mCons (mD (mCall (noXf f_pickL) [true, false] (mCons (mVar 0) (mCons (mVar 1) mNil)))) mNil)))) mNext)
    (mRet (mTup (mCons (mD (mVar 2)) (mCons (mD (mCall (noXf f_pickL) [true, false] (mCons (mVar 0) (mCons (mVar 1) mNil)))) (mCons (mD (mCall (noXf f_pickL) [true, false] (mCons (mVar 0) (mCons (mVar 1) mNil)))) mNil)))))))
theorem ss_some_deedL_v1 {K : KW} {B : Bs} {W : WX} : SS K B W (t_some_deedL_v1 K) (m_some_deedL_v1) :=
  (ss_seq (ss_asg (se_call0 rfl (sa_cons (se_var _) (sa_cons (se_D (se_call0 rfl sa_nil)) sa_nil))) (sg_name _))
    (ss_seq (ss_if (st_Test (se_op (so2_fl (os_in false)) (se_var _) (se_tup (sa_cons (se_str _ (by decide +kernel)) (sa_cons (se_str _ (by decide +kernel)) (sa_cons (se_str _ (by decide +kernel)) (sa_cons (se_str _ (by decide +kernel)) sa_nil))))))) (ss_ret (se_tup (sa_cons (se_D (se_var _)) (sa_cons (se_D (se_call0 rfl (sa_cons (se_var _) (sa_cons (se_var _) sa_nil)))) sa_nil)))) ss_next)
    (ss_ret (se_tup (sa_cons (se_D (se_var _)) (sa_cons (se_D (se_call0 rfl (sa_cons (se_var _) (sa_cons (se_var _) sa_nil)))) (sa_cons (se_D (se_call0 rfl (sa_cons (se_var _) (sa_cons (se_var _) sa_nil)))) sa_nil)))))))
noncomputable def f_some_deedL_v1 : DF := runM 3 m_some_deedL_v1

/-- slots of _law_right_script: 0 _law_deck_here, 1 _law_old, 2 _law_new, 3 _law_most, 4 _law_deeds, 5 _law_names_here, 6 _law_k, 7 _law_deed, 8 _law_made, 9 _law_both, 10 _law_j -/
def n_right_scriptL : List Str := ["_law_deck_here", "_law_old", "_law_new", "_law_most", "_law_deeds", "_law_names_here", "_law_k", "_law_deed", "_law_made", "_law_both", "_law_j"]
def t_right_scriptL (K : KW) : TS :=
  (tSeq (tAsg (tTupF tNil) (gName 4))
    (tSeq (tAsg (tOp (rAddU K) (tVar 1) (tVar 2)) (gName 5))
    (tSeq (tFor (iRng1 (tCons (tCall (spN K f_drawL 2) [] E0 (tCons (tVar 0) (tCons (tOp (rAddU K) (tVar 3) (tC (.int 1))) tNil))) tNil)) (gName 6) (tSeq (tAsg (tCall (spN K f_some_deedL_v1 2) [] E0 (tCons (tVar 0) (tCons (tLc (iRng1 (tCons (tC (.int 3)) tNil)) (gName 10) tYes (tCall (spN K f_pickL 2) [] E0 (tCons (tVar 0) (tCons (tVar 5) tNil))) [10]) tNil))) (gName 7))
    (tSeq (tIfS (tAnd (tTest (tOp (rInU K true) (tOp (rIx K) (tVar 7) (tC (.int 0))) (tTupF (tCons (tC (.str "wrap")) (tCons (tC (.str "put")) tNil))))) (tAnd (tTest (tOp (rEqU K) (tCall (spN K f_drawL 2) [] E0 (tCons (tVar 0) (tCons (tC (.int 6)) tNil))) (tC (.int 0)))) (tTest (tOp (rNeU K) (tVar 2) (tLst tNil))))) (tSeq (tAsg (tCall (spN K f_pickL 2) [] E0 (tCons (tVar 0) (tCons (tVar 2) tNil))) (gName 8))
    (tAsg (tCall (spN K f_pickL 2) [] E0 (tCons (tVar 0) (tCons (tLst (tCons (tTupF (tCons (tC (.str "wrap")) (tCons (tOp (rIx K) (tVar 7) (tC (.int 1))) (tCons (tVar 8) tNil)))) (tCons (tTupF (tCons (tC (.str "put")) (tCons (tVar 8) (tCons (tOp (rIx K) (tVar 7) (tC (.int 1))) tNil)))) tNil))) tNil))) (gName 7))) tNext)
    (tSeq (tAsg (tCall (spN K f_rolesL 1) [] E0 (tCons (tOp (rAddU K) (tVar 4) (tTupF (tCons (tVar 7) tNil))) tNil)) (gName 9))
    (tIfS (tAnd (tTest (tOp rLtU (tCB (rLenU K) (tCons (tOp (rIx K) (tVar 9) (tC (.int 0))) tNil)) (tC (.int 5)))) (tTest (tOp rLtU (tCB (rLenU K) (tCons (tOp (rIx K) (tVar 9) (tC (.int 1))) tNil)) (tC (.int 4))))) (tAsg (tOp (rAddU K) (tVar 4) (tTupF (tCons (tVar 7) tNil))) (gName 4)) tNext)))))
    (tRet (tVar 4)))))
noncomputable def m_right_scriptL : MS :=
  (mSeq (mAsg (mTup mNil) (gN 4))
    (mSeq (mAsg (mOp addA (mVar 1) (mVar 2)) (gN 5))
    (mSeq (mFor .d (mRng1 (mCall (noXf f_drawL) [true, false] (mCons (mVar 0) (mCons (mD (mOp addA (mVar 3) (mC (.int 1)))) mNil)))) (gN 6) (mSeq (mAsg (mCall (noXf f_some_deedL_v1) [true, false] (mCons (mVar 0) (mCons (mD (mLc .d (mRng1 (mC (.int 3))) (gN 10) mYes (mD (mCall (noXf f_pickL) [true, false] (mCons (mVar 0) (mCons (mVar 5) mNil)))) [10])) mNil))) (gN 7))
    (mSeq (mIfS (mAnd (mTst (mOp (fl2 (inD true)) (mOp ixA (mVar 7) (mC (.int 0))) (mTup (mCons (mC (.str "wrap")) (mCons (mC (.str "put")) mNil))))) (mAnd (mTst (mOp (fl2 eqD) (mCall (noXf f_drawL) [true, false] (mCons (mVar 0) (mCons (mC (.int 6)) mNil))) (mC (.int 0)))) (mTst (mOp (fl2 neD) (mVar 2) (mLst mNil))))) (mSeq (mAsg (mCall (noXf f_pickL) [true, false] (mCons (mVar 0) (mCons (mVar 2) mNil))) (gN 8))
    (mAsg (mCall (noXf f_pickL) [true, false] (mCons (mVar 0) (mCons (mD (mLst (mCons (mTup (mCons (mC (.str "wrap")) (mCons (mD (mOp ixA (mVar 7) (mC (.int 1)))) (mCons (mD (mVar 8)) mNil)))) (mCons (mTup (mCons (mC (.str "put")) (mCons (mD (mVar 8)) (mCons (mD (mOp ixA (mVar 7) (mC (.int 1)))) mNil)))) mNil)))) mNil))) (gN 7))) mNext)
    (mSeq (mAsg (mCall (noXf f_rolesL) [false] (mCons (mD (mOp addA (mVar 4) (mTup (mCons (mD (mVar 7)) mNil)))) mNil)) (gN 9))
    (mIfS (mAnd (mTst (mOp (fl2 ltD) (mCB (one lenA) (mCons (mOp ixA (mVar 9) (mC (.int 0))) mNil)) (mC (.int 5)))) (mTst (mOp (fl2 ltD) (mCB (one lenA) (mCons (mOp ixA (mVar 9) (mC (.int 1))) mNil)) (mC (.int 4))))) (mAsg (mOp addA (mVar 4) (mTup (mCons (mD (mVar 7)) mNil))) (gN 4)) mNext)))))
    (mRet (mVar 4)))))
theorem ss_right_scriptL {K : KW} {B : Bs} {W : WX} : SS K B W (t_right_scriptL K) (m_right_scriptL) :=
  (ss_seq (ss_asg (se_tup sa_nil) (sg_name _))
    (ss_seq (ss_asg (se_op so_add (se_var _) (se_var _)) (sg_name _))
    (ss_seq (ss_for (si_rng1 (se_call0 rfl (sa_cons (se_var _) (sa_cons (se_D (se_op so_add (se_var _) (se_int _))) sa_nil)))) (sg_name _) (ss_seq (ss_asg (se_call0 rfl (sa_cons (se_var _) (sa_cons (se_D (se_lc (si_rng1 (se_int _)) (sgw_name _ (by decide)) st_yes (se_D (se_call0 rfl (sa_cons (se_var _) (sa_cons (se_var _) sa_nil)))))) sa_nil))) (sg_name _))
    (ss_seq (ss_if (st_and (st_Test (se_op (so2_fl (os_in true)) (se_op so_ix (se_var _) (se_int _)) (se_tup (sa_cons (se_str _ (by decide +kernel)) (sa_cons (se_str _ (by decide +kernel)) sa_nil))))) (st_and (st_Test (se_op (so2_fl os_eq) (se_call0 rfl (sa_cons (se_var _) (sa_cons (se_int _) sa_nil))) (se_int _))) (st_Test (se_op (so2_fl os_ne) (se_var _) (se_lst sa_nil))))) (ss_seq (ss_asg (se_call0 rfl (sa_cons (se_var _) (sa_cons (se_var _) sa_nil))) (sg_name _))
    (ss_asg (se_call0 rfl (sa_cons (se_var _) (sa_cons (se_D (se_lst (sa_cons (se_tup (sa_cons (se_str _ (by decide +kernel)) (sa_cons (se_D (se_op so_ix (se_var _) (se_int _))) (sa_cons (se_D (se_var _)) sa_nil)))) (sa_cons (se_tup (sa_cons (se_str _ (by decide +kernel)) (sa_cons (se_D (se_var _)) (sa_cons (se_D (se_op so_ix (se_var _) (se_int _))) sa_nil)))) sa_nil)))) sa_nil))) (sg_name _))) ss_next)
    (ss_seq (ss_asg (se_call0 rfl (sa_cons (se_D (se_op so_add (se_var _) (se_tup (sa_cons (se_D (se_var _)) sa_nil)))) sa_nil)) (sg_name _))
    (ss_if (st_and (st_Test (se_op (so2_fl os_lt) (se_cb (soa_one so1_len) (sa_cons (se_op so_ix (se_var _) (se_int _)) sa_nil)) (se_int _))) (st_Test (se_op (so2_fl os_lt) (se_cb (soa_one so1_len) (sa_cons (se_op so_ix (se_var _) (se_int _)) sa_nil)) (se_int _)))) (ss_asg (se_op so_add (se_var _) (se_tup (sa_cons (se_D (se_var _)) sa_nil))) (sg_name _)) ss_next)))))
    (ss_ret (se_var _)))))
noncomputable def f_right_scriptL : DF := runM 11 m_right_scriptL

/-- slots of law: 0 _law_script, 1 _law_deck_here, 2 _law_names_here, 3 _law_deeds, 4 _law_other, 5 _law_things, 6 _law_found, 7 _law_second, 8 _law_k -/
def n_law : List Str := ["_law_script", "_law_deck_here", "_law_names_here", "_law_deeds", "_law_other", "_law_things", "_law_found", "_law_second", "_law_k"]
def t_law (K : KW) : TS :=
  (tSeq (tAsg (tCall (spN K f_deckL 1) [] E0 (tCons (tVar 0) tNil)) (gName 1))
    (tSeq (tAsg (tCall (spN K f_namesL 2) [] E0 (tCons (tVar 1) (tCons (tC (.int 9)) tNil))) (gName 2))
    (tSeq (tAsg (tCall (spN K f_right_scriptL 4) [] E0 (tCons (tVar 1) (tCons (tSl (rSlU K) (tVar 2) tNoPart (tPart (tC (.int 4)))) (tCons (tSl (rSlU K) (tVar 2) (tPart (tC (.int 4))) (tPart (tC (.int 7)))) (tCons (tC (.int 12)) tNil))))) (gName 3))
    (tSeq (tAsg (tCall (spN K f_right_scriptL 4) [] E0 (tCons (tVar 1) (tCons (tSl (rSlU K) (tVar 2) tNoPart (tPart (tC (.int 4)))) (tCons (tSl (rSlU K) (tVar 2) (tPart (tC (.int 4))) (tPart (tC (.int 7)))) (tCons (tC (.int 3)) tNil))))) (gName 4))
    (tSeq (tAsg (tOp (rAddU K) (tOp (rAddU K) (tVar 2) (tLc (iRng1 (tCons (tC (.int 4)) tNil)) (gName 8) tYes (tCall (spN K f_oddL 1) [] E0 (tCons (tVar 1) tNil)) [8])) (tLst (tCons (tC (.str "cut")) (tCons (tVar 3) tNil)))) (gName 5))
    (tSeq (tPar 6 7 (tCons (tMake (He.ga K "Script") (spN K f_Script___init___x 2) [] E0 (tCons (tVar 3) tNil)) (tCons (tMake (He.ga K "Script") (spN K f_Script___init___x 2) [] E0 (tCons (tVar 4) tNil)) tNil)))
    (tSeq (tIfS (tOr (tNot (tB (tCall (spN K f_rightL_v3_x 3) [] E0 (tCons (tVar 7) (tCons (tVar 4) (tCons (tVar 5) tNil)))))) (tNot (tB (tCall (spN K f_rightL_v3_x 3) [] E0 (tCons (tMake (He.ga K "Script") (spN K f_Script___init___x 2) [] E0 (tCons (tC (.ref (He.dflAt ("Script", some "__init__") 0 K))) tNil)) (tCons (tTupF tNil) (tCons (tVar 5) tNil))))))) (tRet (tC (.bl false))) tNext)
    (tRet (tAndV (tCall (spN K f_rightL_v3_x 3) [] E0 (tCons (tVar 6) (tCons (tVar 3) (tCons (tVar 5) tNil)))) (tCall (spN K f_rightL_v3_x 3) [] E0 (tCons (tVar 6) (tCons (tVar 3) (tCons (tVar 5) tNil)))))))))))))
noncomputable def m_law : MS :=
  (mSeq (mAsg (mCall (noXf f_deckL) [false] (mCons (mVar 0) mNil)) (gN 1))
    (mSeq (mAsg (mCall (noXf f_namesL) [true, false] (mCons (mVar 1) (mCons (mC (.int 9)) mNil))) (gN 2))
    (mSeq (mAsg (mCall (noXf f_right_scriptL) [true, false, false, false] (mCons (mVar 1) (mCons (mD (mSl (mVar 2) mNoPart (mPart (mC (.int 4))))) (mCons (mD (mSl (mVar 2) (mPart (mC (.int 4))) (mPart (mC (.int 7))))) (mCons (mC (.int 12)) mNil))))) (gN 3))
    (mSeq (mAsg (mCall (noXf f_right_scriptL) [true, false, false, false] (mCons (mVar 1) (mCons (mD (mSl (mVar 2) mNoPart (mPart (mC (.int 4))))) (mCons (mD (mSl (mVar 2) (mPart (mC (.int 4))) (mPart (mC (.int 7))))) (mCons (mC (.int 3)) mNil))))) (gN 4))
    (mSeq (mAsg (mOp addA (mOp addA (mVar 2) (mLc .d (mRng1 (mC (.int 4))) (gN 8) mYes (mD (mCall (noXf f_oddL) [true] (mCons (mVar 1) mNil))) [8])) (mLst (mCons (mC (.str "cut")) (mCons (mD (mVar 3)) mNil)))) (gN 5))
    (mSeq (mPar 6 7 (mCons (mMake "Script" 1 (noXf f_Script___init___x) (mCons (mD (mVar 3)) mNil)) (mCons (mMake "Script" 1 (noXf f_Script___init___x) (mCons (mD (mVar 4)) mNil)) mNil)))
    (mSeq (mIfS (mOr (mNot (mTst (mCall (noXf f_rightL_v3_x) [true, false, false] (mCons (mVar 7) (mCons (mVar 4) (mCons (mVar 5) mNil)))))) (mNot (mTst (mLet 8 (mMake "Script" 1 (noXf f_Script___init___x) (mCons (mC (.tuple [])) mNil)) (mCall (noXf f_rightL_v3_x) [true, false, false] (mCons (mVar 8) (mCons (mTup mNil) (mCons (mVar 5) mNil)))))))) (mRet (mC (.bool false))) mNext)
    (mRet (mAndE (mCall (noXf f_rightL_v3_x) [true, false, false] (mCons (mVar 6) (mCons (mVar 3) (mCons (mVar 5) mNil)))) (mCall (noXf f_rightL_v3_x) [true, false, false] (mCons (mVar 6) (mCons (mVar 3) (mCons (mVar 5) mNil)))))))))))))
theorem ss_law {K : KW} {B : Bs} {W : WX} (mk_Script : Mk K (He.ga K "Script") (He.ma K (He.ga K "Script") "__init__")) (xs_df_Script___init___x : emT K (He.dflAt ("Script", some "__init__") 0 K) = true) : SS K B W (t_law K) (m_law) :=
  (ss_seq (ss_asg (se_call0 rfl (sa_cons (se_var _) sa_nil)) (sg_name _))
    (ss_seq (ss_asg (se_call0 rfl (sa_cons (se_var _) (sa_cons (se_int _) sa_nil))) (sg_name _))
    (ss_seq (ss_asg (se_call0 rfl (sa_cons (se_var _) (sa_cons (se_D (se_sl (se_var _) so_none (so_part (se_int _)))) (sa_cons (se_D (se_sl (se_var _) (so_part (se_int _)) (so_part (se_int _)))) (sa_cons (se_int _) sa_nil))))) (sg_name _))
    (ss_seq (ss_asg (se_call0 rfl (sa_cons (se_var _) (sa_cons (se_D (se_sl (se_var _) so_none (so_part (se_int _)))) (sa_cons (se_D (se_sl (se_var _) (so_part (se_int _)) (so_part (se_int _)))) (sa_cons (se_int _) sa_nil))))) (sg_name _))
    (ss_seq (ss_asg (se_op so_add (se_op so_add (se_var _) (se_lc (si_rng1 (se_int _)) (sgw_name _ (by decide)) st_yes (se_D (se_call0 rfl (sa_cons (se_var _) sa_nil))))) (se_lst (sa_cons (se_str _ (by decide +kernel)) (sa_cons (se_D (se_var _)) sa_nil)))) (sg_name _))
    (ss_seq (ss_par (sa_cons (se_make0 (sa_cons (se_D (se_var _)) sa_nil)) (sa_cons (se_make0 (sa_cons (se_D (se_var _)) sa_nil)) sa_nil)) (by decide))
    (ss_seq (ss_if (st_or (st_not (st_B (se_call0 rfl (sa_cons (se_var _) (sa_cons (se_var _) (sa_cons (se_var _) sa_nil)))))) (st_not (st_B (se_let (se_makeD0 xs_df_Script___init___x) (se_call0 rfl (sa_cons (se_var _) (sa_cons (se_tup sa_nil) (sa_cons (se_var _) sa_nil)))) (insA_cons (insE_tup insA_nil) (insA_cons (insE_var (by decide)) insA_nil)))))) (ss_ret (se_bl _)) ss_next)
    (ss_ret (se_and (se_call0 rfl (sa_cons (se_var _) (sa_cons (se_var _) (sa_cons (se_var _) sa_nil)))) (se_call0 rfl (sa_cons (se_var _) (sa_cons (se_var _) (sa_cons (se_var _) sa_nil)))))))))))))
noncomputable def f_law : DF := runM 9 m_law

end Tw
namespace Tw
open PySem PySem.Spec PyProof.Rows L2
/-- the deck -/
abbrev Dkv (g m c : Int) : Ow := .l [.int g, .int m, .int c]
theorem atI0 {α : Type} {a b c : α} : atI [a, b, c] 0 = some a := rfl
theorem atI1 {α : Type} {a b c : α} : atI [a, b, c] 1 = some b := rfl
theorem atI2 {α : Type} {a b c : α} : atI [a, b, c] 2 = some c := rfl
theorem ixN0 : ixN 3 0 = some 0 := rfl
theorem ixN2 : ixN 3 2 = some 2 := rfl
theorem cm_l {i j : Int} (h : -(2 ^ 64) < i ∧ i < 2 ^ 64) : CMul i j := .inl h
theorem cm_r {i j : Int} (h : -(2 ^ 64) < j ∧ j < 2 ^ 64) : CMul i j := .inr h
theorem mod_lt64 (x : Int) : -(2 ^ 64) < x % 18446744073709551557 ∧ x % 18446744073709551557 < 2 ^ 64 := by
  have h1 := Int.emod_nonneg x (by decide : (18446744073709551557 : Int) ≠ 0)
  have h2 := Int.emod_lt_of_pos x (by decide : (0 : Int) < 18446744073709551557)
  constructor <;> omega
theorem mod_lt61 (x : Int) : -(2 ^ 64) < x % 2305843009213693951 ∧ x % 2305843009213693951 < 2 ^ 64 := by
  have h1 := Int.emod_nonneg x (by decide : (2305843009213693951 : Int) ≠ 0)
  have h2 := Int.emod_lt_of_pos x (by decide : (0 : Int) < 2305843009213693951)
  constructor <;> omega
theorem draw_ok (g m c n : Int) (h0 : 0 < n) (h1 : n < 1073741824) : ∃ r g' c' : Int, f_drawL [.io (Dkv g m c), .d (.int n)] = .ok (.d (.int r)) [.io (Dkv g' m c'), .d (.int n)] ∧ 0 ≤ r ∧ r < n := by
  have e1 : ∀ j, CMul (11400714819323198485 : Int) j := fun j => cm_l (by decide)
  have e2 : ∀ x j, CMul (x % 18446744073709551557 : Int) j := fun x j => cm_l (mod_lt64 x)
  have e3 : ∀ x j, CMul (x % 2305843009213693951 : Int) j := fun x j => cm_l (mod_lt61 x)
  suffices h : DOk (fun r ios => ∃ z g' c' : Int, r = .d (.int (z % n)) ∧ ios = [.io (Dkv g' m c'), .d (.int n)]) (f_drawL [.io (Dkv g m c), .d (.int n)]) by
    obtain ⟨a, ios, e, z, g', c', rfl, rfl⟩ := h.ex
    exact ⟨_, _, _, e, Int.emod_nonneg _ (by omega), Int.emod_lt_of_pos _ h0⟩
  refine run_ok ?_
  by_cases hg : 0 < g
  · simp! [m_drawL, EndR, atI0, atI1, atI2, ixN0, ixN2, h0, h1, hg]
    exact ⟨_, rfl⟩
  · simp! [m_drawL, EndR, atI0, atI1, atI2, ixN0, ixN2, h0, h1, hg, e1, e2, e3]
    exact ⟨_, rfl⟩
theorem noX_ok (a : A) (l : List A) : DRs.noX (.ok a l) = .ok a l := rfl
theorem pick_ok (g m c : Int) (xs : List Dt) (h0 : xs ≠ []) (h1 : xs.length ≤ 100000) (t : List Dt → Dt) (ht : t = .list ∨ t = .tuple) : ∃ x ∈ xs, ∃ g' c' : Int, f_pickL [.io (Dkv g m c), .d (t xs)] = .ok (.d x) [.io (Dkv g' m c'), .d (t xs)] := by
  have hl : 0 < xs.length := List.length_pos_iff.mpr h0
  obtain ⟨r, g', c', e, r0, r1⟩ := draw_ok g m c xs.length (by omega) (by omega)
  obtain ⟨x, hx, hm⟩ := atI_of r0 r1
  refine ⟨x, hm, g', c', ?_⟩
  rcases ht with rfl | rfl
  · simp! [f_pickL, m_pickL, runM, endM, e, hx]
  · simp! [f_pickL, m_pickL, runM, endM, e, hx]
theorem deck_ok (ns : List Int) : ∃ g m : Int, f_deckL [.sc ns] = .ok (.own (Dkv g m 0)) [.sc ns] := by
  suffices h : DOk (fun r ios => ∃ g m : Int, r = .own (Dkv g m 0) ∧ ios = [.sc ns]) (f_deckL [.sc ns]) by
    obtain ⟨a, ios, e, g, m, rfl, rfl⟩ := h.ex
    exact ⟨g, m, e⟩
  refine run_ok ?_
  have e1 : ∀ j, CMul (41 : Int) j := fun j => cm_l (by decide)
  have e2 : ∀ j, CMul (2 : Int) j := fun j => cm_l (by decide)
  have e3 : ∀ j, CMul j (6364136223846793005 : Int) := fun j => cm_r (by decide)
  have e4 : ∀ j, CMul j (37 : Int) := fun j => cm_r (by decide)
  have s3 : 3 ≤ sizeLine := big (by decide)
  simp! [m_deckL, e1]
  refine fp_for (fun r e => (∀ x ∈ r, ∃ i : Int, x = .int i) ∧ ∃ (g m : Int) (y3 y4 : Option A), e = [some (.sc ns), some (.d (.int g)), some (.d (.int m)), y3, y4] ∧ (y3 = none ∨ ∃ x, y3 = some (.d x)) ∧ (y4 = none ∨ ∃ x, y4 = some (.d x))) (as := [.d (.list (cutD (ns.map PyData.int) none (some 60)))]) (rd := fun _ => some (cutD (ns.map PyData.int) none (some 60))) (xs := cutD (ns.map PyData.int) none (some 60)) (e := [some (.sc ns), some (.d (.int 0)), some (.d (.int (2917 + 41 * ns.length))), none, none]) (by simp!) ⟨?_, _, _, none, none, rfl, .inl rfl, .inl rfl⟩ (fun _ _ _ => rfl) ?_ ?_
  · intro x hx
    have := List.mem_of_mem_drop (List.mem_of_mem_take hx)
    obtain ⟨i, _, rfl⟩ := List.mem_map.mp this
    exact ⟨i, rfl⟩
  · rintro x r e ⟨hr, g, m, y3, y4, rfl, h3, h4⟩
    obtain ⟨i, rfl⟩ := hr _ List.mem_cons_self
    refine ⟨[some (.sc ns), some (.d (.int g)), some (.d (.int m)), some (.d (.int i)), y4], ?_, ?_⟩
    · rcases h3 with rfl | ⟨_, rfl⟩ <;> rcases h4 with rfl | ⟨_, rfl⟩ <;> simp!
    · have hr' : ∀ x ∈ r, ∃ i : Int, x = .int i := fun x hx => hr x (List.mem_cons_of_mem _ hx)
      by_cases c : 1000000000000000000 ≤ (if i < 0 then -i else i)
      · rcases h4 with rfl | ⟨_, rfl⟩
        · simp! [e2, e3, e4, c]
          exact ⟨hr', _, _, _, _, ⟨rfl, rfl, rfl, rfl⟩, .inr ⟨_, rfl⟩, .inr ⟨_, rfl⟩⟩
        · simp! [e2, e3, e4, c]
          exact ⟨hr', _, _, _, _, ⟨rfl, rfl, rfl, rfl⟩, .inr ⟨_, rfl⟩, .inr ⟨_, rfl⟩⟩
      · rcases h4 with rfl | ⟨_, rfl⟩
        · simp! [e2, e3, e4, c]
          exact ⟨hr', _, _, _, _, ⟨rfl, rfl, rfl, rfl⟩, .inr ⟨_, rfl⟩, .inr ⟨_, rfl⟩⟩
        · simp! [e2, e3, e4, c]
          exact ⟨hr', _, _, _, _, ⟨rfl, rfl, rfl, rfl⟩, .inr ⟨_, rfl⟩, .inr ⟨_, rfl⟩⟩
  · rintro e ⟨_, g, m, y3, y4, rfl, h3, h4⟩
    simp! [s3]
    refine ⟨_, rfl, ?_⟩
    simp!
end Tw

namespace Tw
open PySem PySem.Spec PyProof.Rows L2
theorem sum_ones (cs : List Nat) : ((cs.map fun c => (⟨#[c]⟩ : Str)).map (·.length)).sum = cs.length := by
  induction cs with
  | nil => rfl
  | cons c r ih =>
    rw [List.map_cons, List.map_cons, List.sum_cons, ih, List.length_cons]
    show 1 + r.length = r.length + 1
    omega
theorem strsD_map : ∀ ss : List Str, strsD (ss.map .str) = some ss
  | [] => rfl
  | s :: r => by
    show (strsD (r.map .str)).map (s :: ·) = _
    rw [strsD_map r]
    rfl
theorem intsD_len (lo : Int) (n : Nat) : (intsD lo n).length = n := by simp [intsD]
theorem name_ok (g m c : Int) : ∃ (z : Str) (g' c' : Int), IsNm z ∧ f_nameL [.io (Dkv g m c)] = .ok (.d (.str z)) [.io (Dkv g' m c')] := by
  suffices h : DOk (fun r ios => ∃ (z : Str) (g' c' : Int), IsNm z ∧ r = .d (.str z) ∧ ios = [.io (Dkv g' m c')]) (f_nameL [.io (Dkv g m c)]) by
    obtain ⟨a, ios, e, z, g', c', h, rfl, rfl⟩ := h.ex
    exact ⟨_, _, _, h, e⟩
  refine run_ok ?_
  simp! [m_nameL]
  obtain ⟨r, g1, c1, e1, r0, r1⟩ := draw_ok g m c 8 (by decide) (by decide)
  generalize hl : mLc _ _ _ _ _ _ _ _ = r0
  obtain ⟨ys, e', rfl, cs, g2, c2, hle, hc, hy, rfl⟩ := lc_okr hl (fun rr acc e => ∃ (cs : List Nat) (g' c' : Int), cs.length + rr.length = (1 + r).toNat ∧ (∀ c ∈ cs, IsLt c) ∧ acc = cs.map (fun c => PyData.str ⟨#[c]⟩) ∧ e = [some (.io (Dkv g' m c')), some (.d (.str letters)), none])
    (as := []) (rd := fun _ => some (intsD 0 (1 + r).toNat)) (xs := intsD 0 (1 + r).toNat) (e := [some (.io (Dkv g1 m c1)), some (.d (.str letters)), none]) (by
      have h1 : (-4611686018427387904 : Int) ≤ 1 + r := by omega
      have h2 : 1 + r < (4611686018427387904 : Int) := by omega
      simp! [e1, h1, h2]) (by simp!) ⟨[], g1, c1, by simp [intsD_len], by simp, rfl, rfl⟩ (fun _ _ _ _ => rfl) (by
      rintro x rr acc e ⟨cs, g', c', hle, hc, rfl, rfl⟩
      obtain ⟨r2, g2, c2, e2, s0, s1⟩ := draw_ok g' m c' 26 (by decide) (by decide)
      have hat := letters_at s0 s1
      have hs : cs.length < sizeLine := big' (by omega)
      refine ⟨_, by simp!; rfl, true, _, rfl, fun _ => ⟨_, _, by simp! [e2, hat]; exact ⟨rfl, rfl⟩, by simpa using hs, by simp!, cs ++ [97 + r2.toNat], g2, c2, ?_, ?_, ?_, ?_⟩, fun z => nomatch z⟩
      · simp at hle ⊢
        omega
      · intro c hc'
        rcases List.mem_append.mp hc' with h | h
        · exact hc c h
        · rcases List.mem_cons.mp h with rfl | h
          · unfold IsLt
            omega
          · cases h
      · simp
      · simp!)
  have hz := tl_singles cs
  have hs := strsD_map (cs.map fun c => (⟨#[c]⟩ : Str))
  have e0 : ("" : Str).length = 0 := by decide +kernel
  have hn : cs.length = (1 + r).toNat := by simpa using hle
  have hL : (Txt.join "" (cs.map fun c => (⟨#[c]⟩ : Str))).length ≤ sizeLine := len_tl_le (n := 8) (by rw [hz]; omega) (by decide)
  have hk : ((cs.map fun c => (⟨#[c]⟩ : Str)).map (·.length)).sum + (cs.map fun c => (⟨#[c]⟩ : Str)).length * ("" : Str).length ≤ 16777216 := by
    rw [sum_ones, e0, hn]
    omega
  have hy' : ys = (cs.map fun c => (⟨#[c]⟩ : Str)).map .str := by rw [hy, List.map_map]; rfl
  rw [hy']
  generalize hcs : (cs.map fun c => (⟨#[c]⟩ : Str)) = ss at *
  simp! only [Option.map_some, Option.bind_some, hs]
  rw [if_pos ⟨hk, hL⟩]
  simp! [EndR]
  refine ⟨?_, ?_, ?_⟩
  · rw [hz]
    omega
  · rw [hz]
    omega
  · rw [hz]
    exact hc
end Tw

namespace Tw
open PySem PySem.Spec PyProof.Rows L2
theorem fp_conseq {N : Env → Prop} {R : A → Env → Prop} {f : Fl} (J : Env → Prop) (h : FP J R f) (k : ∀ e, J e → N e) : FP N R f := by
  cases h with
  | nx h => exact .nx (k _ h)
  | rt h => exact .rt h
theorem rng1_int {m : ME} {env e : Env} {te : List A} {j : Int} (hj : -(2 ^ 62) ≤ j ∧ j < 2 ^ 62) (h : m env te = .ok (.d (.int j)) e) : mRng1 m env te = .ok ([], fun _ => some (intsD 0 j.toNat)) e := by
  rw [ev_mRng1, h]
  exact if_pos hj
theorem rng1_nat {m : ME} {env e : Env} {te : List A} {n : Nat} (hn : n ≤ 100000) (h : m env te = .ok (.d (.int n)) e) : mRng1 m env te = .ok ([], fun _ => some (intsD 0 n)) e := by
  rw [rng1_int (j := (n : Int)) ⟨by omega, by omega⟩ h, Int.toNat_natCast]
theorem eqv_str (a b : Str) : PyData.eqv (.str a) (.str b) = decide (a = b) := by
  rw [Bool.eq_iff_iff]
  simp [PyData.eqv]
theorem eqv_int (a b : Int) : PyData.eqv (.int a) (.int b) = decide (a = b) := by
  rw [Bool.eq_iff_iff]
  simp [PyData.eqv]
theorem eqD_int (a b : Int) : eqD (.int a) (.int b) = some (.bool (decide (a = b))) := by
  unfold eqD
  rw [if_pos (by simp [okEq, PyData.plain, PyData.depth]), eqv_int]
theorem eqD_str (a b : Str) : eqD (.str a) (.str b) = some (.bool (decide (a = b))) := by
  unfold eqD
  rw [if_pos (by simp [okEq, PyData.plain, PyData.depth]), eqv_str]
theorem neD_int (a b : Int) : neD (.int a) (.int b) = some (.bool (!decide (a = b))) := by
  unfold neD
  rw [if_pos (by simp [okEq, PyData.plain, PyData.depth]), eqv_int]
theorem any_str (z : Str) (ns : List Str) : (ns.any fun s => PyData.eqv (.str s) (.str z)) = decide (z ∈ ns) := by
  rw [Bool.eq_iff_iff]
  simp [eqv_str]
theorem inD_list (neg : Bool) (z : Str) (ns : List Str) : inD neg (.str z) (.list (ns.map .str)) = some (.bool (if neg then !decide (z ∈ ns) else decide (z ∈ ns))) := by
  unfold inD
  simp only [seqD, strsD_map, any_str]
  have e : ((ns.map PyData.str).any fun y => PyData.eqv y (.str z)) = decide (z ∈ ns) := by
    rw [List.any_map]
    exact any_str z ns
  rw [e]
  split <;> rfl
theorem inD_tup (neg : Bool) (z : Str) (ns : List Str) : inD neg (.str z) (.tuple (ns.map .str)) = some (.bool (if neg then !decide (z ∈ ns) else decide (z ∈ ns))) := by
  unfold inD
  simp only [seqD, strsD_map, any_str]
  have e : ((ns.map PyData.str).any fun y => PyData.eqv y (.str z)) = decide (z ∈ ns) := by
    rw [List.any_map]
    exact any_str z ns
  rw [e]
  split <;> rfl
theorem len_rep8 (l : List Nat) : ((List.replicate 8 l).flatten).length = 8 * l.length := by
  rw [List.length_flatten, List.map_replicate]
  simp [List.replicate]
  omega
theorem two_signs (a b : Nat) : (⟨#[a]⟩ : Str) ++ ⟨#[b]⟩ = ⟨#[a, b]⟩ := TL.ext_tl (by
  rw [TL.tl_append]
  rfl)
theorem nm_sign {a b : List Nat} {c : Nat} {z : Str} (hz : TL.tl z = a ++ [c] ++ b) (hc : IsLt c) (ha : ∀ x ∈ a, IsLt x) (hb : ∀ x ∈ b, IsLt x) (hl : a.length + b.length ≤ 7) : IsNm z := by
  refine ⟨?_, ?_, ?_⟩
  · rw [hz]
    simp
    omega
  · rw [hz]
    simp
    omega
  · rw [hz]
    intro x hx
    rcases List.mem_append.mp hx with h | h
    · rcases List.mem_append.mp h with h | h
      · exact ha x h
      · rcases List.mem_cons.mp h with rfl | h
        · exact hc
        · cases h
    · exact hb x h
def nE (sp : List Dt) (m g c : Int) (n : Nat) (way : Int) (bs : Str) (pl at_ : Nat) (ns : List Str) (y9 y10 y11 : Option A) : Env := [some (.io (Dkv g m c)), some (.d (.int n)), some (.d (.str letters)), some (.own (.l sp)), some (.d (.int way)), some (.d (.str bs)), some (.d (.int pl)), some (.d (.int at_)), some (.own (.l (ns.map .str))), y9, y10, y11]
def ND (y : Option A) : Prop := y = none ∨ ∃ x, y = some (.d x)
theorem spare_at {k : Nat} (h : k < 676) : atI (spares.map PyData.str) k = some (.str (spare k)) := by
  refine atI_nat ?_
  rw [List.getElem?_map, spares_get h]
  rfl
def slotNat (e : Env) (i : Nat) : Nat := match e[i]? with
  | some (some (A.d (.int k))) => k.toNat
  | _ => 0
theorem nm_len {z : Str} (h : IsNm z) : z.length ≤ 8 := by
  rw [TL.len_tl]
  exact h.2.1
theorem names_ok (g m c : Int) (n : Nat) (hn : n ≤ 600) : ∃ (ns : List Str) (g' c' : Int), ns.length = n ∧ ns.Nodup ∧ (∀ z ∈ ns, IsNm z) ∧ f_namesL [.io (Dkv g m c), .d (.int n)] = .ok (.own (.l (ns.map .str))) [.io (Dkv g' m c'), .d (.int n)] := by
  suffices h : DOk (fun r ios => ∃ (ns : List Str) (g' c' : Int), ns.length = n ∧ ns.Nodup ∧ (∀ z ∈ ns, IsNm z) ∧ r = .own (.l (ns.map .str)) ∧ ios = [.io (Dkv g' m c'), .d (.int n)]) (f_namesL [.io (Dkv g m c), .d (.int n)]) by
    obtain ⟨a, ios, e, ns, g', c', h1, h2, h3, rfl, rfl⟩ := h.ex
    exact ⟨_, _, _, h1, h2, h3, e⟩
  refine run_ok ?_
  simp! [m_namesL]
  -- the spare names
  generalize hl : mLc _ _ _ _ _ _ _ _ = r0
  obtain ⟨ys, e', rfl, hi⟩ := lc_okr hl (fun rr acc e => rr = (intsD 0 676).drop acc.length ∧ acc.length ≤ 676 ∧ acc = (spares.take acc.length).map .str ∧ e = [some (.io (Dkv g m c)), some (.d (.int n)), some (.d (.str letters)), none, none, none, none, none, none, none, none, none])
    (as := []) (rd := fun _ => some (intsD 0 676)) (xs := intsD 0 676) (e := [some (.io (Dkv g m c)), some (.d (.int n)), some (.d (.str letters)), none, none, none, none, none, none, none, none, none]) (by
      simp!) (by simp!) ⟨rfl, by simp, rfl, by simp!⟩ (fun _ _ _ _ => rfl) (by
      rintro x rr acc e ⟨h1, h2, h3, rfl⟩
      have hlt : acc.length < 676 := by
        rcases Nat.lt_or_ge acc.length 676 with h | h
        · exact h
        · rw [List.drop_of_length_le (by rw [intsD_len]; exact h)] at h1
          cases h1
      have hx : (intsD 0 676)[acc.length]? = some (.int acc.length) := by
        unfold intsD
        rw [List.getElem?_map, List.getElem?_range hlt]
        simp
      have hd : (intsD 0 676).drop acc.length = .int acc.length :: (intsD 0 676).drop (acc.length + 1) := by
        rw [List.getElem?_eq_some_iff] at hx
        obtain ⟨h, e⟩ := hx
        rw [List.drop_eq_getElem_cons h, e]
      rw [hd] at h1
      injection h1 with h1 h4
      subst h1
      have a1 := letters_at (i := (acc.length : Int) / 26) (by omega) (by omega)
      have a2 := letters_at (i := (acc.length : Int) % 26) (by omega) (by omega)
      have hsz : acc.length < sizeLine := big' (by omega)
      have h2s : (1 : Nat) + 1 ≤ sizeLine := big (by decide)
      have e2 : (⟨#[97 + ((acc.length : Int) / 26).toNat]⟩ : Str) ++ ⟨#[97 + ((acc.length : Int) % 26).toNat]⟩ = spare acc.length := by
        rw [two_signs]
        unfold spare
        have e3 : ((acc.length : Int) / 26).toNat = acc.length / 26 := by omega
        have e4 : ((acc.length : Int) % 26).toNat = acc.length % 26 := by omega
        rw [e3, e4]
      have l1 : ∀ k : Nat, (⟨#[k]⟩ : Str).length = 1 := fun _ => rfl
      refine ⟨_, by simp!; rfl, true, _, rfl, fun _ => ⟨.str (spare acc.length), _, by simp! [a1, a2, l1, h2s, e2]; rfl, hsz, by simp!, ?_, ?_, ?_, ?_⟩, fun z => nomatch z⟩
      · simpa using h4
      · simp
        omega
      · rw [List.length_append]
        show acc ++ [_] = (spares.take (acc.length + 1)).map _
        rw [List.take_add_one, spares_get hlt, List.map_append, ← h3]
        rfl
      · simp!)
  obtain ⟨h1, h2, h3, rfl⟩ := hi
  have hyl : ys.length = 676 := by
    have := congrArg List.length h1
    rw [List.length_drop, intsD_len, List.length_nil] at this
    omega
  have eys : ys = spares.map .str := by
    rw [h3, hyl, List.take_of_length_le (by rw [spares_len]; omega)]
  clear hl h1 h2 h3 hyl
  obtain ⟨sp, hsp, rfl⟩ : ∃ sp, (∀ k : Nat, k < 676 → atI sp k = some (.str (spare k))) ∧ sp = ys := ⟨ys, fun k hk => by rw [eys]; exact spare_at hk, rfl⟩
  clear eys
  obtain ⟨way, g1, c1, q1, w0, w1⟩ := draw_ok g m c 4 (by decide) (by decide)
  obtain ⟨z0, g2, c2, hz0, q2⟩ := name_ok g1 m c1
  obtain ⟨pl', g3, c3, q3, p0, p1⟩ := draw_ok g2 m c2 8 (by decide) (by decide)
  obtain ⟨pl, rfl⟩ : ∃ k : Nat, pl' = k := ⟨pl'.toNat, by omega⟩
  have hz1 : 1 ≤ (TL.tl z0).length := hz0.1
  have hz8 : (TL.tl z0).length ≤ 8 := hz0.2.1
  have em : TL.tl (Txt.mul z0 8) = (List.replicate 8 (TL.tl z0)).flatten := tl_mul z0 8 (by decide) hz1
  have lm : (TL.tl (Txt.mul z0 8)).length = 8 * (TL.tl z0).length := by
    rw [em]
    exact len_rep8 _
  have mk : MulOk z0 8 := mulOk_small (n := 8) (by decide) (by omega)
  have ml : (Txt.mul z0 8).length ≤ sizeLine := len_tl_le (n := 64) (by omega) (by decide)
  have tb : TL.tl (cutS (Txt.mul z0 8) none (some 8)) = (TL.tl (Txt.mul z0 8)).take 8 := tl_cut_to _ 8
  have cl : (cutS (Txt.mul z0 8) none (some 8)).length ≤ sizeLine := len_tl_le (n := 8) (by rw [tb, List.length_take]; omega) (by decide)
  have s0 : (0 : Nat) ≤ sizeLine := Nat.zero_le _
  simp! [q1, q2, mk, ml, cl]
  generalize cutS (Txt.mul z0 8) none (some 8) = bs at tb ⊢
  clear cl
  refine fp_conseq (fun e => e = nE sp m g3 c3 n way bs pl 0 [] none none none) (by simp! [q3, nE]) ?_
  rintro _ rfl
  rw [sq_ap, fp_seq]
  have lb : (TL.tl bs).length = 8 := by
    rw [tb, List.length_take, lm]
    omega
  have cb : ∀ c ∈ TL.tl bs, IsLt c := fun c hc => by
    rw [tb] at hc
    have hc2 := List.mem_of_mem_take hc
    rw [em] at hc2
    obtain ⟨l, hl, hcl⟩ := List.mem_flatten.mp hc2
    rw [List.eq_of_mem_replicate hl] at hcl
    exact hz0.2.2 c hcl
  refine fp_for (fun r e => ∃ (g' c' : Int) (ns : List Str) (at_ : Nat) (y9 y10 y11 : Option A), e = nE sp m g' c' n way bs pl at_ ns y9 y10 y11 ∧ ND y9 ∧ ND y10 ∧ ND y11 ∧ ns.length + r.length = n ∧ ns.Nodup ∧ (∀ z ∈ ns, IsNm z) ∧ (∀ j, j < at_ → spare j ∈ ns) ∧ at_ ≤ 676)
    (as := []) (rd := fun _ => some (intsD 0 n)) (xs := intsD 0 n) (e := nE sp m g3 c3 n way bs pl 0 [] none none none) ?_ ?_ ?_ ?_ ?_
  · exact rng1_nat (by omega) (by simp! [nE])
  · exact ⟨g3, c3, [], 0, none, none, none, rfl, .inl rfl, .inl rfl, .inl rfl, by simp [intsD_len], List.nodup_nil, by simp, fun j h => absurd h (Nat.not_lt_zero _), by decide⟩
  · exact fun _ _ _ => rfl
  · rintro x r e ⟨g', c', ns, at_, y9, y10, y11, rfl, hy9, hy10, hy11, hlen, hnd, hnm, hu, hat⟩
    have hl2 : ns.length + (r.length + 1) = n := hlen
    obtain ⟨x', rfl⟩ : ∃ x' : A, x' = .d x := ⟨_, rfl⟩
    refine ⟨nE sp m g' c' n way bs pl at_ ns (some (.d x)) y10 y11, ?_, ?_⟩
    · rcases hy9 with rfl | ⟨_, rfl⟩ <;> rcases hy10 with rfl | ⟨_, rfl⟩ <;> rcases hy11 with rfl | ⟨_, rfl⟩ <;> simp! [nE]
    · rw [fp_seq]
      -- the kind
      refine fp_conseq (fun e => ∃ (g' c' kd : Int), e = nE sp m g' c' n way bs pl at_ ns (some (.d x)) (some (.d (.int kd))) y11) ?_ ?_
      · obtain ⟨r3, g4, c4, q4, _, _⟩ := draw_ok g' m c' 3 (by decide) (by decide)
        by_cases hw : way = 3
        · rcases hy10 with rfl | ⟨_, rfl⟩ <;> rcases hy11 with rfl | ⟨_, rfl⟩ <;> simp! [nE, eqD_int, hw, q4]
        · rcases hy10 with rfl | ⟨_, rfl⟩ <;> rcases hy11 with rfl | ⟨_, rfl⟩ <;> simp! [nE, eqD_int, hw]
      · rintro e ⟨g', c', kd, rfl⟩
        rw [sq_ap, fp_seq]
        -- the name
        refine fp_conseq (fun e => ∃ (g' c' : Int) (z : Str), IsNm z ∧ e = nE sp m g' c' n way bs pl at_ ns (some (.d x)) (some (.d (.int kd))) (some (.d (.str z)))) ?_ ?_
        · by_cases k0 : kd = 0
          · obtain ⟨z, g4, c4, hz, q4⟩ := name_ok g' m c'
            rcases hy11 with rfl | ⟨_, rfl⟩ <;> simp! [nE, eqD_int, k0, q4, hz]
          · by_cases k1 : kd = 1
            · subst k1
              obtain ⟨r2, g4, c4, q4, r0, r1⟩ := draw_ok g' m c' 26 (by decide) (by decide)
              have p1' : pl < 8 := by omega
              have t1 : TL.tl (cutS bs none (some (pl : Int))) = (TL.tl bs).take pl := tl_cut_to bs pl
              have t2 : TL.tl (cutS bs (some ((pl : Int) + 1)) none) = (TL.tl bs).drop (pl + 1) := tl_cut_from bs (pl + 1)
              have l1 : ((TL.tl bs).take pl).length = pl := by rw [List.length_take]; omega
              have l2 : ((TL.tl bs).drop (pl + 1)).length = 7 - pl := by rw [List.length_drop]; omega
              have hz : IsNm (cutS bs none (some (pl : Int)) ++ (⟨#[97 + r2.toNat]⟩ : Str) ++ cutS bs (some ((pl : Int) + 1)) none) := by
                refine nm_sign (a := (TL.tl bs).take pl) (b := (TL.tl bs).drop (pl + 1)) (c := 97 + r2.toNat) ?_ ?_ (fun x hx => cb x (List.mem_of_mem_take hx)) (fun x hx => cb x (List.mem_of_mem_drop hx)) (by omega)
                · rw [TL.tl_append, TL.tl_append, t1, t2]
                · unfold IsLt
                  omega
              have b1 : (cutS bs none (some (pl : Int))).length ≤ sizeLine := len_tl_le (n := 8) (by rw [t1]; omega) (by decide)
              have b2 : (cutS bs (some ((pl : Int) + 1)) none).length ≤ sizeLine := len_tl_le (n := 8) (by rw [t2]; omega) (by decide)
              have b3 : (cutS bs none (some (pl : Int))).length + (⟨#[97 + r2.toNat]⟩ : Str).length ≤ sizeLine := by
                rw [TL.len_tl, TL.len_tl, t1, l1]
                exact big (by show pl + 1 ≤ 100000; omega)
              have b4 : (cutS bs none (some (pl : Int)) ++ (⟨#[97 + r2.toNat]⟩ : Str)).length + (cutS bs (some ((pl : Int) + 1)) none).length ≤ sizeLine := by
                rw [TL.len_tl, TL.len_tl, TL.tl_append, t1, t2, List.length_append, l1, l2]
                exact big (by show pl + 1 + (7 - pl) ≤ 100000; omega)
              have hat := letters_at r0 r1
              rcases hy11 with rfl | ⟨_, rfl⟩ <;> simp! [nE, eqD_int, q4, hat, b1, b2, b3, b4, hz]
            · obtain ⟨r2, g4, c4, q4, r0, r1⟩ := draw_ok g' m c' 8 (by decide) (by decide)
              obtain ⟨rn, rfl⟩ : ∃ rn : Nat, r2 = rn := ⟨r2.toNat, by omega⟩
              have t1 : TL.tl (cutS bs none (some (1 + (rn : Int)))) = (TL.tl bs).take (1 + rn) := tl_cut_to bs (1 + rn)
              have hz : IsNm (cutS bs none (some (1 + (rn : Int)))) := by
                refine ⟨?_, ?_, ?_⟩
                · rw [t1, List.length_take]
                  omega
                · rw [t1, List.length_take]
                  omega
                · rw [t1]
                  exact fun x hx => cb x (List.mem_of_mem_take hx)
              have b1 : (cutS bs none (some (1 + (rn : Int)))).length ≤ sizeLine := len_tl_le (n := 8) hz.2.1 (by decide)
              rcases hy11 with rfl | ⟨_, rfl⟩ <;> simp! [nE, eqD_int, k0, k1, q4, b1, hz]
        · rintro e ⟨g', c', z, hz, rfl⟩
          rw [sq_ap, fp_seq]
          refine fp_while (fun e => ∃ (z : Str) (at2 : Nat), IsNm z ∧ e = nE sp m g' c' n way bs pl at2 ns (some (.d x)) (some (.d (.int kd))) (some (.d (.str z))) ∧ at2 ≤ 676 ∧ ∀ j, j < at2 → spare j ∈ ns ∨ spare j = z) (fun e => 676 - slotNat e 7) ⟨z, at_, hz, rfl, hat, fun j hj => .inl (hu j hj)⟩ ?_
          rintro e ⟨z, at2, hz, rfl, h2, hu2⟩
          refine ⟨decide (z ∈ ns), nE sp m g' c' n way bs pl at2 ns (some (.d x)) (some (.d (.int kd))) (some (.d (.str z))), by simp! [nE, inD_list], fun hc => ?_, fun hc => ?_⟩
          · have hzm : z ∈ ns := of_decide_eq_true hc
            have hu3 : ∀ j, j < at2 → spare j ∈ ns := fun j hj => by
              rcases hu2 j hj with h | h
              · exact h
              · rw [h]; exact hzm
            have ha2 : at2 ≤ ns.length := used_le h2 hu3
            have hsp' := hsp at2 (by omega)
            refine fp_conseq (fun e => e = nE sp m g' c' n way bs pl (at2 + 1) ns (some (.d x)) (some (.d (.int kd))) (some (.d (.str (spare at2))))) (by simp! [nE, hsp']) ?_
            rintro _ rfl
            refine ⟨⟨spare at2, at2 + 1, spare_nm (by omega), rfl, by omega, fun j hj => ?_⟩, ?_⟩
            · by_cases hj2 : j < at2
              · exact .inl (hu3 j hj2)
              · have : j = at2 := by omega
                subst this
                exact .inr rfl
            · show 676 - ((at2 + 1 : Nat) : Int).toNat < 676 - (at2 : Int).toNat
              omega
          · have hzm : z ∉ ns := of_decide_eq_false hc
            have hsz : ns.length < sizeLine := big' (by omega)
            rw [sq_ap]
            refine fp_conseq (fun e => e = nE sp m g' c' n way bs pl at2 (ns ++ [z]) (some (.d x)) (some (.d (.int kd))) (some (.d (.str z)))) (by simp! [nE, hsz]) ?_
            rintro _ rfl
            refine ⟨g', c', ns ++ [z], at2, _, _, _, rfl, .inr ⟨_, rfl⟩, .inr ⟨_, rfl⟩, .inr ⟨_, rfl⟩, ?_, ?_, ?_, ?_, h2⟩
            · rw [List.length_append]
              show ns.length + 1 + r.length = n
              omega
            · rw [List.nodup_append]
              refine ⟨hnd, List.nodup_cons.mpr ⟨(fun h => nomatch h), List.nodup_nil⟩, fun a ha b hb => ?_⟩
              rcases List.mem_cons.mp hb with rfl | hb
              · exact fun e => hzm (by rw [← e]; exact ha)
              · cases hb
            · intro y hy
              rcases List.mem_append.mp hy with h | h
              · exact hnm y h
              · rcases List.mem_cons.mp h with rfl | h
                · exact hz
                · cases h
            · intro j hj
              rcases hu2 j hj with h | h
              · exact List.mem_append_left _ h
              · exact List.mem_append_right _ (by rw [h]; exact List.mem_cons_self)
  · rintro e ⟨g', c', ns, at_, y9, y10, y11, rfl, hy9, hy10, hy11, hlen, hnd, hnm, hu, hat⟩
    simp! [nE, EndR]
    refine ⟨ns, ?_, hnd, hnm, rfl⟩
    simpa using hlen
end Tw

namespace Tw
open PySem PySem.Spec PyProof.Rows L2
end Tw

namespace Tw
open PySem PySem.Spec PyProof.Rows L2
/-! ### dicts -/
theorem lkD_nil {α : Type} (k : Key) : lkD ([] : List (Key × α)) k = none := rfl
theorem lkD_cons {α : Type} (a : Key) (x : α) (r : List (Key × α)) (k : Key) : lkD ((a, x) :: r) k = if a = k then some x else lkD r k := by
  unfold lkD
  rw [List.find?_cons]
  by_cases c : a = k
  · rw [if_pos c]
    simp [c]
  · rw [if_neg c]
    simp [c]
theorem lkD_map_put {α : Type} (k : Key) (v : α) (k' : Key) : ∀ kvs : List (Key × α), lkD (kvs.map fun kv => if kv.1 = k then (kv.1, v) else kv) k' = if k' = k then (lkD kvs k').map (fun _ => v) else lkD kvs k'
  | [] => by simp [lkD_nil]
  | (a, x) :: r => by
    have ih := lkD_map_put k v k' r
    rw [List.map_cons]
    by_cases c : a = k
    · simp only [c, if_true]
      rw [lkD_cons, lkD_cons, ih]
      by_cases d : k' = k
      · simp [d]
      · have d' : ¬ k = k' := fun e => d e.symm
        simp [d, d']
    · simp only [c, if_false]
      rw [lkD_cons, lkD_cons, ih]
      by_cases d : k' = k
      · subst d
        simp [c]
      · simp [d]
theorem lkD_snoc {α : Type} (k : Key) (v : α) (k' : Key) : ∀ kvs : List (Key × α), lkD (kvs ++ [(k, v)]) k' = match lkD kvs k' with | some x => some x | none => if k = k' then some v else none
  | [] => by
    show lkD [(k, v)] k' = _
    rw [lkD_cons, lkD_nil]
  | (a, x) :: r => by
    rw [List.cons_append, lkD_cons, lkD_cons, lkD_snoc k v k' r]
    by_cases c : a = k'
    · simp [c]
    · simp [c]
theorem lkD_none {α : Type} (k : Key) : ∀ kvs : List (Key × α), (kvs.any fun kv => decide (kv.1 = k)) = false → lkD kvs k = none
  | [], _ => rfl
  | (a, x) :: r, h => by
    rw [List.any_cons, Bool.or_eq_false_iff] at h
    rw [lkD_cons, if_neg (of_decide_eq_false h.1), lkD_none k r h.2]
theorem lkD_some {α : Type} (k : Key) : ∀ kvs : List (Key × α), (kvs.any fun kv => decide (kv.1 = k)) = true → ∃ x, lkD kvs k = some x
  | [], h => nomatch h
  | (a, x) :: r, h => by
    rw [lkD_cons]
    by_cases c : a = k
    · exact ⟨x, if_pos c⟩
    · rw [if_neg c]
      refine lkD_some k r ?_
      rw [List.any_cons] at h
      simpa [c] using h
theorem lkD_put {α : Type} (kvs : List (Key × α)) (k : Key) (v : α) (k' : Key) : lkD (putD kvs k v) k' = if k' = k then some v else lkD kvs k' := by
  unfold putD
  split
  · rename_i h
    rw [lkD_map_put]
    by_cases c : k' = k
    · subst c
      obtain ⟨x, e⟩ := lkD_some _ _ h
      simp [e]
    · simp [c]
  · rename_i h
    have h' : (kvs.any fun kv => decide (kv.1 = k)) = false := by
      cases z : (kvs.any fun kv => decide (kv.1 = k)) with
      | false => rfl
      | true => exact absurd z h
    rw [lkD_snoc]
    by_cases c : k' = k
    · subst c
      rw [lkD_none _ _ h']
    · rw [if_neg c]
      have c' : ¬ k = k' := fun e => c e.symm
      cases lkD kvs k' with
      | none => simp [c']
      | some x => rfl
theorem putD_keys {α : Type} {kvs : List (Key × α)} {k : Key} {v : α} {q : Key × α} (h : q ∈ putD kvs k v) : q.1 = k ∨ ∃ p ∈ kvs, p.1 = q.1 := by
  unfold putD at h
  split at h
  · obtain ⟨x, hx, e⟩ := List.mem_map.mp h
    split at e
    · rename_i c
      rw [← e]
      exact .inl c
    · rw [← e]
      exact .inr ⟨x, hx, rfl⟩
  · rcases List.mem_append.mp h with h | h
    · exact .inr ⟨q, h, rfl⟩
    · rcases List.mem_cons.mp h with rfl | h
      · exact .inl rfl
      · cases h
theorem putD_len {α : Type} {kvs : List (Key × α)} {k : Key} {v : α} : (putD kvs k v).length ≤ kvs.length + 1 ∧ kvs.length ≤ (putD kvs k v).length := by
  unfold putD
  split
  · rw [List.length_map]
    omega
  · rw [List.length_append, List.length_cons, List.length_nil]
    omega
theorem lkD_mem {α : Type} {kvs : List (Key × α)} {k : Key} {v : α} (h : lkD kvs k = some v) : ∃ q ∈ kvs, q.1 = k := by
  unfold lkD at h
  cases e : kvs.find? (fun kv => decide (kv.1 = k)) with
  | none => rw [e] at h; cases h
  | some q => exact ⟨q, List.mem_of_find?_eq_some e, of_decide_eq_true (List.find?_some (p := fun kv : Key × α => decide (kv.1 = k)) e)⟩
/-! ### the dict of kids -/
end Tw

namespace Tw
open PySem PySem.Spec PyProof.Rows L2
theorem cutD_to {α : Type} (zs : List α) (a : Nat) : cutD zs none (some (a : Int)) = zs.take a := by
  unfold cutD
  rw [HT.sIx_nat, HT.sIx_none, List.drop_zero, Nat.sub_zero]
  by_cases h : a ≤ zs.length
  · rw [Nat.min_eq_left h]
  · rw [Nat.min_eq_right (by omega), List.take_of_length_le (Nat.le_refl _), List.take_of_length_le (by omega)]
theorem cutD_from {α : Type} (zs : List α) (a : Nat) : cutD zs (some (a : Int)) none = zs.drop a := by
  unfold cutD
  rw [HT.sIx_nat, HT.sIx_none]
  by_cases h : a ≤ zs.length
  · rw [Nat.min_eq_left h]
    exact List.take_of_length_le (by rw [List.length_drop]; omega)
  · rw [Nat.min_eq_right (by omega), List.drop_of_length_le (Nat.le_refl _), List.drop_of_length_le (by omega)]
    simp
end Tw

namespace Tw
open PySem PySem.Spec PyProof.Rows L2
/-! ### the dict of depths -/
end Tw

namespace Tw
open PySem PySem.Spec PyProof.Rows L2
theorem lkD_setF {α : Type} (k : Key) (y : α) (k' : Key) : ∀ kvs : List (Key × α), lkD (setF kvs k y) k' = if k' = k then (lkD kvs k').map (fun _ => y) else lkD kvs k'
  | [] => by simp [setF, lkD_nil]
  | (a, x) :: r => by
    have ih := lkD_setF k y k' r
    by_cases c : a = k
    · subst c
      simp only [setF, if_true]
      rw [lkD_cons, lkD_cons]
      by_cases d : k' = a
      · simp [d]
      · have d' : ¬ a = k' := fun e => d e.symm
        simp [d, d']
    · simp only [setF, c, if_false]
      rw [lkD_cons, lkD_cons, ih]
      by_cases d : k' = k
      · subst d
        simp [c]
      · simp [d]
theorem setF_keys {α : Type} {k : Key} {y : α} : ∀ {kvs : List (Key × α)} {q : Key × α}, q ∈ setF kvs k y → ∃ p ∈ kvs, p.1 = q.1
  | (a, x) :: r, q, h => by
    by_cases c : a = k
    · simp only [setF, c, if_true] at h
      rcases List.mem_cons.mp h with rfl | h
      · exact ⟨_, List.mem_cons_self, c⟩
      · exact ⟨q, List.mem_cons_of_mem _ h, rfl⟩
    · simp only [setF, c, if_false] at h
      rcases List.mem_cons.mp h with rfl | h
      · exact ⟨_, List.mem_cons_self, rfl⟩
      · obtain ⟨p, hp, e⟩ := setF_keys h
        exact ⟨p, List.mem_cons_of_mem _ hp, e⟩
theorem setF_len {α : Type} (k : Key) (y : α) : ∀ kvs : List (Key × α), (setF kvs k y).length = kvs.length
  | [] => rfl
  | (a, x) :: r => by
    by_cases c : a = k
    · simp [setF, c]
    · simp [setF, c, setF_len k y r]
end Tw

namespace Tw
open PySem PySem.Spec PyProof.Rows L2
theorem FP.mono_eq {N : Env → Prop} {R : A → Env → Prop} {f : Fl} {e : Env} (h : f = .nx e) (k : N e) : FP N R f := by
  rw [h]
  exact .nx k
theorem FP.ifT {N : Env → Prop} {R : A → Env → Prop} {c : MT} {a b : MS} {env e : Env} {te : List A} (h : c env te = .ok true e) (k : FP N R (a e te)) : FP N R (mIfS c a b env te) := by
  rw [ev_mIfS, h]
  exact k
theorem FP.asg {N : Env → Prop} {R : A → Env → Prop} {m : ME} {g : MG} {env e e' : Env} {te : List A} {a : A} (h : m env te = .ok a e) (hg : g a e te = some e') (k : N e') : FP N R (mAsg m g env te) := by
  refine FP.mono_eq (e := e') ?_ k
  rw [ev_mAsg, h]
  show (match g a e te with | some e' => Fl.nx e' | none => Fl.bad) = _
  rw [hg]
end Tw

namespace Tw
open PySem PySem.Spec PyProof.Rows L2
theorem FP.ifF {N : Env → Prop} {R : A → Env → Prop} {c : MT} {a b : MS} {env e : Env} {te : List A} (h : c env te = .ok false e) (k : FP N R (b e te)) : FP N R (mIfS c a b env te) := by
  rw [ev_mIfS, h]
  exact k
theorem FP.ret {N : Env → Prop} {R : A → Env → Prop} {m : ME} {env e : Env} {te : List A} {a : A} (h : m env te = .ok a e) (k : R a e) : FP N R (mRet m env te) := by
  rw [ev_mRet, h]
  exact .rt k
end Tw

namespace Tw
open PySem PySem.Spec PyProof.Rows L2
def Wd.tks (w : Wd) : List Dt := w.toks.map fun p => .str (tkS p)
end Tw

namespace Tw
open PySem PySem.Spec PyProof.Rows L2
/-- what waits: a text, or a tree -/
inductive Itm where
  | s (z : Str)
  | t (n : Str) (i : Wd)
def Itm.out : Itm → List Dt
  | .s z => [.str z]
  | .t n i => .str (tkS (true, n)) :: (i.tks ++ [.str (tkS (false, n))])
def Itm.nm : Itm → Prop
  | .s _ => True
  | .t n i => IsNm n ∧ ∀ z ∈ i.names, IsNm z
def Wd.trees : Wd → List Itm
  | .nil => []
  | .cons n i r => .t n i :: r.trees
theorem neD_nil (xs : List Dt) : neD (.list xs) (.list []) = some (.bool (!xs.isEmpty)) := by
  unfold neD
  rw [if_pos (by simp [okEq, emptyEq])]
  cases xs with
  | nil => rfl
  | cons x r => rfl
end Tw

namespace Tw
open PySem PySem.Spec PyProof.Rows L2
end Tw

namespace Tw
open PySem PySem.Spec PyProof.Rows L2
end Tw

namespace Tw
open PySem PySem.Spec PyProof.Rows L2
end Tw

namespace Tw
open PySem PySem.Spec PyProof.Rows L2
/-! ### who lies in whom -/
end Tw

namespace Tw
open PySem PySem.Spec PyProof.Rows L2
end Tw

namespace Tw
open PySem PySem.Spec PyProof.Rows L2
end Tw

namespace Tw
open PySem PySem.Spec PyProof.Rows L2
/-! ### what a node lies in, from the nearest on -/
def Wd.path (a : Str) : Wd → Option (List Str)
  | .nil => none
  | .cons n i r => if n = a then some [] else match i.path a with
    | some p => some (p ++ [n])
    | none => r.path a
end Tw

namespace Tw
open PySem PySem.Spec PyProof.Rows L2
end Tw

namespace Tw
open PySem PySem.Spec PyProof.Rows L2
abbrev tkD (p : Bool × Str) : Dt := .str (tkS p)
theorem pick_str (g m c : Int) (ns : List Str) (h0 : ns ≠ []) (h1 : ns.length ≤ 100000) : ∃ z ∈ ns, ∃ g' c' : Int, f_pickL [.io (Dkv g m c), .d (.list (ns.map .str))] = .ok (.d (.str z)) [.io (Dkv g' m c'), .d (.list (ns.map .str))] := by
  obtain ⟨x, hx, g', c', h⟩ := pick_ok g m c (ns.map .str) (by simpa using h0) (by simpa using h1) .list (.inl rfl)
  obtain ⟨z, hz, rfl⟩ := List.mem_map.mp hx
  exact ⟨z, hz, g', c', h⟩
/-! ### rows as lists of ends -/
theorem cut_tk {env : Env} {te : List A} {j : Nat} {p : Bool × Str} (h : env[j]? = some (some (.d (tkD p)))) (hl : p.2.length ≤ 1000) : mSl (mVar j) (mPart (mC (.int 1))) mNoPart env te = .ok (.d (.str p.2)) env := by
  have ct := tk_cut p
  have hz : p.2.length ≤ sizeLine := big (by omega)
  simp! [h, ct, hz]
/-- a comprehension over data whose test and item change nothing -/
theorem lc_genR {mi : MI} {tt : MT} {el : ME} {j : Nat} {env : Env} {te as : List A} {xs : List Dt} {rd : Env → Option (List Dt)} (p : Dt → Bool) (f : Dt → Dt) (hm : mi env te = .ok (as, rd) env) (hr : rd env = some xs) (hj : env[j]? = some none) (ha : anyC (isRf j) env (as ++ te) = false) (hl : xs.length ≤ 100000)
    (ht : ∀ x ∈ xs, ∀ acc : List Dt, tt (env.set j (some (.d x))) (.own (.l acc) :: (as ++ te)) = .ok (p x) (env.set j (some (.d x)))) (he : ∀ x ∈ xs, p x = true → ∀ acc : List Dt, el (env.set j (some (.d x))) (.own (.l acc) :: (as ++ te)) = .ok (.d (f x)) (env.set j (some (.d x)))) :
    mLc .d mi (gN j) tt el [j] env te = .ok (.own (.l ((xs.filter p).map f))) env := by
  have hjl : j < env.length := by
    cases h : decide (j < env.length) with
    | true => exact of_decide_eq_true h
    | false =>
      rw [List.getElem?_eq_none (by have := of_decide_eq_false h; omega)] at hj
      cases hj
  have hset : env.set j none = env := by
    apply List.ext_getElem?
    intro k
    rw [List.getElem?_set]
    by_cases c : j = k
    · subst c; rw [if_pos rfl, if_pos hjl, hj]
    · rw [if_neg c]
  unfold anyC at ha
  rw [Bool.or_eq_false_iff] at ha
  obtain ⟨hae, hat⟩ := ha
  have hwo : ∀ (e1 : Env) (acc : List Dt), inE (isRf j) e1 = false → nIo e1[j]? = true → wipeOk e1 (.own (.l acc) :: (as ++ te)) [j] = true := fun e1 acc h1 h2 => by
    rw [wipeOk_cons, wipeOk_nil]
    show (true && !anyC (isRf j) e1 (.own (.l acc) :: (as ++ te)) && nIo e1[j]?) = true
    unfold anyC
    rw [h1, h2, List.any_cons, hat]
    rfl
  refine lc_pure (as := as) (rd := rd) (xs := xs) p f hm hr hl (hwo env [] hae (by rw [hj]; rfl)) hset ?_
  rintro x hx acc
  have hg : gN j (.d x) env (.own (.l acc) :: (as ++ te)) = some (env.set j (some (.d x))) := by
    refine if_pos ?_
    rw [ev_setOk, hj]
    unfold anyC
    rw [hae, List.any_cons, List.any_cons, hat]
    simp [hjl, nIo1, isRf, isIo]
  have hin : inE (isRf j) (env.set j (some (.d x))) = false := by
    unfold inE at hae ⊢
    rw [List.any_eq_false] at hae ⊢
    intro c hc
    rcases List.mem_or_eq_of_mem_set hc with h | h
    · exact hae c h
    · rw [h]; simp [isRf]
  have hjj : (env.set j (some (.d x)))[j]? = some (some (.d x)) := by rw [List.getElem?_set_self hjl]
  refine ⟨_, hg, ht x hx acc, fun h => he x hx h acc, fun acc' => hwo _ _ hin (by rw [hjj]; rfl), ?_⟩
  show (env.set j _).set j none = env
  rw [List.set_set, hset]
theorem lc_gen {mi : MI} {tt : MT} {el : ME} {j : Nat} {env : Env} {te as : List A} {xs : List Dt} (p : Dt → Bool) (f : Dt → Dt) (hm : mi env te = .ok (as, fun _ => some xs) env) (hj : env[j]? = some none) (ha : anyC (isRf j) env (as ++ te) = false) (hl : xs.length ≤ 100000)
    (ht : ∀ x ∈ xs, ∀ acc : List Dt, tt (env.set j (some (.d x))) (.own (.l acc) :: (as ++ te)) = .ok (p x) (env.set j (some (.d x)))) (he : ∀ x ∈ xs, p x = true → ∀ acc : List Dt, el (env.set j (some (.d x))) (.own (.l acc) :: (as ++ te)) = .ok (.d (f x)) (env.set j (some (.d x)))) :
    mLc .d mi (gN j) tt el [j] env te = .ok (.own (.l ((xs.filter p).map f))) env := lc_genR p f hm rfl hj ha hl ht he
end Tw

namespace Tw
open PySem PySem.Spec PyProof.Rows L2
/-! ### rows read: wood_from -/
abbrev Tok := Bool × Str
theorem seqI_ok {m : ME} {env e : Env} {te : List A} {D : Dt} {xs : List Dt} (h : m env te = .ok (.d D) e) (hD : D = .list xs ∨ D = .tuple xs) : mSeqI m env te = .ok ([.d D], fun _ => some xs) e := by
  rcases hD with rfl | rfl
  · rw [ev_mSeqI, h]
    rfl
  · rw [ev_mSeqI, h]
    rfl
end Tw

namespace Tw
open PySem PySem.Spec PyProof.Rows L2
/-! ### the law's own way to read a row -/
/-! ### some of the nodes alone -/
def Wd.keep (P : Str → Bool) : Wd → Wd
  | .nil => .nil
  | .cons n i r => if P n = true then .cons n (i.keep P) (r.keep P) else (i.keep P).app (r.keep P)
end Tw

namespace Tw
open PySem PySem.Spec PyProof.Rows L2
/-! ### what is a name -/
theorem chain_ok {g1 g2 : Dt → Dt → Option Dt} {ma mb mc : ME} {env : Env} {te : List A} {x y z : Dt} {b1 b2 : Bool} (ha : ∀ te, ma env te = .ok (.d x) env) (hb : ∀ te, mb env te = .ok (.d y) env) (hc : ∀ te, mc env te = .ok (.d z) env) (h1 : g1 x y = some (.bool b1)) (h2 : g2 y z = some (.bool b2)) : mChain g1 g2 ma mb mc env te = .ok (.d (.bool (b1 && b2))) env := by
  unfold mChain
  rw [ha]
  show Rs.bind (mb env _) _ = _
  rw [hb]
  cases b1 with
  | true =>
    simp only [Rs.bind_ok, A.val, h1, isIo, Bool.false_eq_true, if_false]
    rw [hc]
    simp [ev_fl2, A.val, h2]
  | false =>
    simp only [Rs.bind_ok, A.val, h1]
    simp
instance : DecidablePred IsLt := fun c => by unfold IsLt; infer_instance
instance (z : Str) : Decidable (IsNm z) := by unfold IsNm; infer_instance
def isNmD : Dt → Bool
  | .str z => decide (IsNm z)
  | _ => false
theorem letters_mem (c : Nat) : decide (c ∈ letters.cps.toList) = decide (IsLt c) := by
  have e : letters.cps.toList = List.range' 97 26 := by decide +kernel
  rw [e, decide_eq_decide, List.mem_range'_1]
  unfold IsLt
  omega
theorem boolsD_map {α : Type} (q : α → Bool) : ∀ l : List α, boolsD (l.map fun x => .bool (q x)) = some (l.map q)
  | [] => rfl
  | x :: r => by
    show (boolsD (r.map fun x => .bool (q x))).map (q x :: ·) = _
    rw [boolsD_map q r]
    rfl
theorem kb_NoneType_str : kitB "NoneType" "str" = some false := by decide +kernel
theorem kb_bool_str : kitB "bool" "str" = some false := by decide +kernel
theorem kb_int_str : kitB "int" "str" = some false := by decide +kernel
theorem kb_str_str : kitB "str" "str" = some true := by decide +kernel
theorem kb_list_str : kitB "list" "str" = some false := by decide +kernel
theorem kb_tuple_str : kitB "tuple" "str" = some false := by decide +kernel
theorem kb_dict_str : kitB "dict" "str" = some false := by decide +kernel
theorem kb_NoneType_tuple : kitB "NoneType" "tuple" = some false := by decide +kernel
theorem kb_bool_tuple : kitB "bool" "tuple" = some false := by decide +kernel
theorem kb_int_tuple : kitB "int" "tuple" = some false := by decide +kernel
theorem kb_str_tuple : kitB "str" "tuple" = some false := by decide +kernel
theorem kb_list_tuple : kitB "list" "tuple" = some false := by decide +kernel
theorem kb_tuple_tuple : kitB "tuple" "tuple" = some true := by decide +kernel
theorem kb_dict_tuple : kitB "dict" "tuple" = some false := by decide +kernel
theorem is_name_ok (x : Dt) : f_is_name [.d x] = .ok (.d (.bool (isNmD x))) [.d x] := by
  refine ok_of ?_
  unfold f_is_name
  refine run_ok ?_
  unfold m_is_name
  refine FP.sq ?_
  by_cases hx : ∃ z, x = .str z
  · obtain ⟨z, rfl⟩ := hx
    have ks' := kb_str_str
    have ch := fun te => chain_ok (g1 := leD) (g2 := leD) (ma := mC (.int 1)) (mb := mCB (one lenA) (mCons (mVar 0) mNil)) (mc := mC (.int 8)) (env := [some (.d (.str z)), none]) (te := te) (x := .int 1) (y := .int z.length) (z := .int 8) (fun _ => rfl) (fun _ => rfl) (fun _ => rfl) rfl rfl
    have el : z.length = (TL.tl z).length := TL.len_tl z
    generalize mChain leD leD _ _ _ = CH at ch ⊢
    by_cases hc : 1 ≤ z.length ∧ z.length ≤ 8
    · have hb : (decide ((1 : Int) ≤ (z.length : Int)) && decide ((z.length : Int) ≤ 8)) = true := by
        rw [Bool.and_eq_true, decide_eq_true_eq, decide_eq_true_eq]
        omega
      rw [hb] at ch
      refine FP.ifF (e := [some (.d (.str z)), none]) (by simp! [ks', ch]) ?_
      refine .nx ?_
      have hl := lc_gen (mi := mSeqI (mVar 0)) (tt := mYes) (el := mOp (fl2 (inD false)) (mVar 1) (mC (.str "abcdefghijklmnopqrstuvwxyz"))) (j := 1) (env := [some (.d (.str z)), none]) (te := []) (as := [.d (.str z)]) (xs := chD z) (fun _ => true) (fun c => match c with | .str y => .bool (decide (y.cps.toList.headD 0 ∈ letters.cps.toList)) | _ => .none) (by simp!) rfl (by simp!) (by unfold chD; rw [List.length_map]; have : (TL.tl z).length = z.cps.toList.length := rfl; omega) (fun _ _ _ => rfl) (by
        rintro x hx - acc
        obtain ⟨c, hc, rfl⟩ := List.mem_map.mp hx
        have hi : inD false (.str ⟨#[c]⟩) (.str "abcdefghijklmnopqrstuvwxyz") = some (.bool (decide (c ∈ letters.cps.toList))) := by
          simp [inD]
        simp! [hi])
      rw [List.filter_eq_self.mpr (fun _ _ => rfl)] at hl
      have hm : (chD z).map (fun c => match c with | .str y => PyData.bool (decide (y.cps.toList.headD 0 ∈ letters.cps.toList)) | _ => .none) = (TL.tl z).map fun c => .bool (decide (c ∈ letters.cps.toList)) := by
        unfold chD
        rw [List.map_map]
        rfl
      rw [hm] at hl
      have hbo := boolsD_map (fun c => decide (c ∈ letters.cps.toList)) (TL.tl z)
      generalize mLc _ _ _ _ _ _ = ML at hl ⊢
      generalize (TL.tl z).map (fun c => PyData.bool (decide (c ∈ letters.cps.toList))) = LL at hl hbo
      refine FP.re (e := [some (.d (.str z)), none]) (a := .d (.bool (isNmD (.str z)))) ?_ ⟨_, rfl, rfl, rfl⟩
      have fin : (((TL.tl z).map fun c => decide (c ∈ letters.cps.toList)).all id) = isNmD (.str z) := by
        show _ = decide (IsNm z)
        rw [Bool.eq_iff_iff, decide_eq_true_eq, List.all_eq_true]
        constructor
        · intro h
          refine ⟨by omega, by omega, fun c hc => ?_⟩
          have := h _ (List.mem_map_of_mem hc)
          rw [letters_mem] at this
          exact of_decide_eq_true this
        · rintro ⟨-, -, h⟩ b hb
          obtain ⟨c, hc, rfl⟩ := List.mem_map.mp hb
          rw [letters_mem]
          exact decide_eq_true (h c hc)
      rw [← fin]
      simp! [hl, hbo]
    · have hb : (decide ((1 : Int) ≤ (z.length : Int)) && decide ((z.length : Int) ≤ 8)) = false := by
        rw [Bool.and_eq_false_iff, decide_eq_false_iff_not, decide_eq_false_iff_not]
        omega
      rw [hb] at ch
      refine FP.ifT (e := [some (.d (.str z)), none]) (by simp! [ks', ch]) ?_
      have fin : isNmD (.str z) = false := decide_eq_false (fun h => hc ⟨by rw [el]; exact h.1, by rw [el]; exact h.2.1⟩)
      rw [fin]
      refine FP.re (by simp!; first | exact ⟨rfl, rfl⟩ | rfl) ?_
      exact ⟨_, rfl, rfl, rfl⟩
  · have fin : isNmD x = false := by
      cases x with
      | str z => exact absurd ⟨z, rfl⟩ hx
      | _ => rfl
    rw [fin]
    refine FP.ifT (e := [some (.d x), none]) ?_ ?_
    · cases x with
      | str z => exact absurd ⟨z, rfl⟩ hx
      | none => simp! [kb_NoneType_str]
      | bool b => simp! [kb_bool_str]
      | int b => simp! [kb_int_str]
      | list b => simp! [kb_list_str]
      | tuple b => simp! [kb_tuple_str]
      | dict b => simp! [kb_dict_str]
    · refine FP.re (by simp!; first | exact ⟨rfl, rfl⟩ | rfl) ?_
      exact ⟨_, rfl, rfl, rfl⟩
end Tw

namespace Tw
open PySem PySem.Spec PyProof.Rows L2
/-! ### names for a skeleton -/
/-! ### gaps -/
end Tw

namespace Tw
open PySem PySem.Spec PyProof.Rows L2
/-! ### some of some names, in a drawn order -/
/-! ### equal data -/
mutual
theorem eqv_self : ∀ d : PyData, d.plain = true → PyData.eqv d d = true
  | .none, _ => rfl
  | .bool b, _ => by simp [PyData.eqv]
  | .int i, _ => by simp [PyData.eqv]
  | .str x, _ => by simp [PyData.eqv]
  | .list xs, h => by rw [PyData.eqv]; exact eqvAll_self xs h
  | .tuple xs, h => by rw [PyData.eqv]; exact eqvAll_self xs h
  | .dict _, h => nomatch h
theorem eqvAll_self : ∀ ds : List PyData, PyData.plainAll ds = true → PyData.eqvAll ds ds = true
  | [], _ => rfl
  | d :: ds, h => by
    have h2 : d.plain = true ∧ PyData.plainAll ds = true := by simpa [PyData.plainAll] using h
    rw [PyData.eqvAll, eqv_self d h2.1, eqvAll_self ds h2.2]
    rfl
end
theorem okEq_self {x : Dt} (h : x.plain = true) (hd : x.depth ≤ 190) : okEq x x = true := by
  unfold okEq
  rw [h]
  simp [hd]
theorem neD_self {x : Dt} (h : x.plain = true) (hd : x.depth ≤ 190) : neD x x = some (.bool false) := by
  unfold neD
  rw [if_pos (okEq_self h hd), eqv_self x h]
  rfl
theorem plainAll_of : ∀ {l : List Dt}, (∀ x ∈ l, x.plain = true) → PyData.plainAll l = true
  | [], _ => rfl
  | x :: l, h => by
    show (x.plain && PyData.plainAll l) = true
    rw [h x List.mem_cons_self, plainAll_of (fun y hy => h y (List.mem_cons_of_mem _ hy))]
    rfl
end Tw

namespace Tw
open PySem PySem.Spec PyProof.Rows L2
/-! ### rows with numbers of gaps among the ends -/
inductive RI where
  | e (p : Tok)
  | g (k : Nat)
deriving DecidableEq
def RI.D : RI → Dt
  | .e p => tkD p
  | .g k => .int k
abbrev rowD (r : List RI) : Dt := .tuple (r.map RI.D)
def ix (p : Tok) : List RI → Nat
  | [] => 0
  | x :: r => if x = .e p then 0 else ix p r + 1
theorem ix_app {p : Tok} : ∀ {A B : List RI}, RI.e p ∉ A → ix p (A ++ B) = A.length + ix p B
  | [], B, _ => (Nat.zero_add _).symm
  | x :: A, B, h => by
    have h1 : ¬ x = .e p := fun e => h (by rw [e]; exact List.mem_cons_self)
    show (if x = .e p then 0 else ix p (A ++ B) + 1) = _
    rw [if_neg h1, ix_app (fun z => h (List.mem_cons_of_mem _ z)), List.length_cons]
    omega
theorem ix_hd {p : Tok} {B : List RI} : ix p (.e p :: B) = 0 := if_pos rfl
theorem ix_at {p : Tok} {A B : List RI} (h : RI.e p ∉ A) : ix p (A ++ .e p :: B) = A.length := by
  rw [ix_app h, ix_hd]
  rfl
/-! ### woods with numbers among the trees -/
inductive GW where
  | nil
  | cons (n : Str) (i r : GW)
  | gap (k : Nat) (r : GW)
namespace GW
def row : GW → List RI
  | nil => []
  | cons n i r => .e (true, n) :: (i.row ++ .e (false, n) :: r.row)
  | gap k r => .g k :: r.row
end GW
/-- the names that are open -/
def run : List Str → List RI → Option (List Str)
  | S, [] => some S
  | S, .g _ :: r => run S r
  | S, .e (true, n) :: r => run (n :: S) r
  | [], .e (false, _) :: _ => none
  | m :: S, .e (false, n) :: r => if m = n then run S r else none
theorem run_app : ∀ (a b : List RI) (S : List Str), run S (a ++ b) = (run S a).bind fun T => run T b
  | [], b, S => by simp [run]
  | .g k :: a, b, S => by
    show run S (a ++ b) = (run S a).bind _
    exact run_app a b S
  | .e (true, n) :: a, b, S => by
    show run (n :: S) (a ++ b) = (run (n :: S) a).bind _
    exact run_app a b _
  | .e (false, n) :: a, b, [] => rfl
  | .e (false, n) :: a, b, m :: S => by
    show (if m = n then run S (a ++ b) else none) = (if m = n then run S a else none).bind _
    by_cases c : m = n
    · rw [if_pos c, if_pos c]
      exact run_app a b S
    · rw [if_neg c, if_neg c]
      rfl
def Bal (r : List RI) : Prop := ∀ S, run S r = some S
theorem GW.bal : ∀ w : GW, Bal w.row
  | .nil => fun S => rfl
  | .cons n i r => fun S => by
    show run (n :: S) (i.row ++ .e (false, n) :: r.row) = some S
    rw [run_app, GW.bal i (n :: S)]
    show (if n = n then run S r.row else none) = some S
    rw [if_pos rfl]
    exact GW.bal r S
  | .gap k r => fun S => GW.bal r S
theorem Bal.app {a b : List RI} (ha : Bal a) (hb : Bal b) : Bal (a ++ b) := fun S => by
  rw [run_app, ha S]
  exact hb S
theorem Bal.node {n : Str} {a b : List RI} (ha : Bal a) (hb : Bal b) : Bal (.e (true, n) :: (a ++ .e (false, n) :: b)) := fun S => by
  show run (n :: S) (a ++ .e (false, n) :: b) = some S
  rw [run_app, ha (n :: S)]
  show (if n = n then run S b else none) = some S
  rw [if_pos rfl]
  exact hb S
theorem Bal.block {n : Str} {a : List RI} (ha : Bal a) : Bal (.e (true, n) :: (a ++ [.e (false, n)])) := Bal.node (b := []) ha (fun S => rfl)
/-- what stands behind so many open names -/
inductive Segs : List Str → List RI → Prop
  | last (w : GW) : Segs [] w.row
  | more (w : GW) {n : Str} {S : List Str} {r : List RI} (h : Segs S r) : Segs (n :: S) (w.row ++ .e (false, n) :: r)
theorem Segs.gap {S : List Str} {r : List RI} (k : Nat) (h : Segs S r) : Segs S (.g k :: r) := by
  cases h with
  | last w => exact .last (.gap k w)
  | more w h => exact .more (.gap k w) h
theorem Segs.node {n : Str} {S : List Str} {r : List RI} (h : Segs (n :: S) r) : Segs S (.e (true, n) :: r) := by
  cases h with
  | more w h =>
    cases h with
    | last v => exact .last (.cons n w v)
    | @more v m S r h =>
      have := Segs.more (.cons n w v) (n := m) h
      simpa [GW.row] using this
theorem segs_of : ∀ {r : List RI} {S : List Str}, run S r = some [] → Segs S r
  | [], S, h => by
    have : S = [] := Option.some.inj h
    subst this
    exact .last .nil
  | .g k :: r, S, h => Segs.gap k (segs_of (r := r) h)
  | .e (true, n) :: r, S, h => Segs.node (segs_of (r := r) h)
  | .e (false, n) :: r, [], h => nomatch h
  | .e (false, n) :: r, m :: S, h => by
    have h' : (if m = n then run S r else none) = some [] := h
    by_cases c : m = n
    · rw [if_pos c] at h'
      subst c
      exact .more .nil (segs_of h')
    · rw [if_neg c] at h'
      cases h'
theorem gw_of {r : List RI} (h : run [] r = some []) : ∃ w : GW, w.row = r := by
  cases segs_of h with
  | last w => exact ⟨w, rfl⟩
/-! ### the ends of a row -/
def ends : List RI → List Tok
  | [] => []
  | .e p :: r => p :: ends r
  | .g _ :: r => ends r
theorem ends_app : ∀ a b : List RI, ends (a ++ b) = ends a ++ ends b
  | [], b => rfl
  | .e p :: a, b => congrArg (p :: ·) (ends_app a b)
  | .g k :: a, b => ends_app a b
theorem mem_ends {p : Tok} : ∀ {r : List RI}, p ∈ ends r ↔ RI.e p ∈ r
  | [] => ⟨(fun h => nomatch h), (fun h => nomatch h)⟩
  | .e q :: r => by
    show p ∈ q :: ends r ↔ _
    rw [List.mem_cons, List.mem_cons, mem_ends (r := r)]
    exact ⟨fun h => h.imp (fun e => by rw [e]) id, fun h => h.imp (fun e => by cases e; rfl) id⟩
  | .g k :: r => by
    show p ∈ ends r ↔ _
    rw [List.mem_cons, mem_ends (r := r)]
    exact ⟨.inr, fun h => h.resolve_left (fun e => by cases e)⟩
/-- a row of a wood, with numbers or without -/
structure Ok (r : List RI) : Prop where
  bal : Bal r
  nd : (ends r).Nodup
theorem GW.pair : ∀ (w : GW) (n : Str), RI.e (true, n) ∈ w.row ↔ RI.e (false, n) ∈ w.row
  | .nil, n => ⟨(fun h => nomatch h), (fun h => nomatch h)⟩
  | .gap k r, n => by
    show _ ∈ .g k :: r.row ↔ _ ∈ .g k :: r.row
    rw [List.mem_cons, List.mem_cons, GW.pair r n]
    simp
  | .cons m i r, n => by
    show _ ∈ .e (true, m) :: (i.row ++ .e (false, m) :: r.row) ↔ _ ∈ .e (true, m) :: (i.row ++ .e (false, m) :: r.row)
    simp only [List.mem_cons, List.mem_append, GW.pair i n, GW.pair r n, RI.e.injEq, Prod.mk.injEq, true_and, Bool.true_eq_false, Bool.false_eq_true, false_and, false_or]
    constructor
    · rintro (h | h | h)
      · exact .inr (.inl h)
      · exact .inl h
      · exact .inr (.inr h)
    · rintro (h | h | h)
      · exact .inr (.inl h)
      · exact .inl h
      · exact .inr (.inr h)
theorem GW.split : ∀ {w : GW} {n : Str}, RI.e (true, n) ∈ w.row → ∃ (A : List RI) (i : GW) (B : List RI), w.row = A ++ .e (true, n) :: (i.row ++ .e (false, n) :: B)
  | .nil, n, h => nomatch h
  | .gap k r, n, h => by
    have h' : RI.e (true, n) ∈ RI.g k :: r.row := h
    rcases List.mem_cons.mp h' with e | e
    · cases e
    · obtain ⟨A, i, B, q⟩ := GW.split e
      exact ⟨.g k :: A, i, B, by show RI.g k :: r.row = _; rw [q]; rfl⟩
  | .cons m i r, n, h => by
    have h' : RI.e (true, n) ∈ .e (true, m) :: (i.row ++ .e (false, m) :: r.row) := h
    rcases List.mem_cons.mp h' with e | e
    · cases e
      exact ⟨[], i, r.row, rfl⟩
    · rcases List.mem_append.mp e with e | e
      · obtain ⟨A, j, B, q⟩ := GW.split e
        refine ⟨.e (true, m) :: A, j, B ++ .e (false, m) :: r.row, ?_⟩
        show .e (true, m) :: (i.row ++ .e (false, m) :: r.row) = _
        rw [q]
        simp
      · rcases List.mem_cons.mp e with e | e
        · cases e
        · obtain ⟨A, j, B, q⟩ := GW.split e
          refine ⟨.e (true, m) :: (i.row ++ .e (false, m) :: A), j, B, ?_⟩
          show .e (true, m) :: (i.row ++ .e (false, m) :: r.row) = _
          rw [q]
          simp
/-- how a row stands around a node -/
structure Sp (r : List RI) (n : Str) (A I B : List RI) : Prop where
  eq : r = A ++ .e (true, n) :: (I ++ .e (false, n) :: B)
  bal : Bal I
  out : ∀ b, RI.e (b, n) ∉ A ∧ RI.e (b, n) ∉ I ∧ RI.e (b, n) ∉ B
  i1 : ix (true, n) r = A.length
  i2 : ix (false, n) r = A.length + 1 + I.length
theorem nodup_parts {α : Type} {a b c d : List α} {x y : α} (h : (a ++ x :: (b ++ y :: c)).Nodup) : x ∉ a ∧ x ∉ b ∧ x ∉ c ∧ y ∉ a ∧ y ∉ b ∧ y ∉ c := by
  rw [List.nodup_append] at h
  obtain ⟨_, h2, h3⟩ := h
  rw [List.nodup_cons] at h2
  obtain ⟨h4, h5⟩ := h2
  rw [List.nodup_append] at h5
  obtain ⟨_, h6, h7⟩ := h5
  rw [List.nodup_cons] at h6
  refine ⟨fun z => h3 x z x List.mem_cons_self rfl, fun z => h4 (List.mem_append_left _ z), fun z => h4 (List.mem_append_right _ (List.mem_cons_of_mem _ z)), fun z => h3 y z y (List.mem_cons_of_mem _ (List.mem_append_right _ List.mem_cons_self)) rfl, fun z => h7 y z y List.mem_cons_self rfl, h6.1⟩
theorem Ok.sp {r : List RI} (o : Ok r) {n : Str} (h : RI.e (true, n) ∈ r) : ∃ A I B, Sp r n A I B := by
  obtain ⟨w, rfl⟩ := gw_of (o.bal [])
  obtain ⟨A, i, B, e⟩ := GW.split h
  have nd := o.nd
  rw [e, ends_app] at nd
  have nd' : (ends A ++ (true, n) :: (ends i.row ++ (false, n) :: ends B)).Nodup := by
    have : ends (.e (true, n) :: (i.row ++ .e (false, n) :: B)) = (true, n) :: (ends i.row ++ (false, n) :: ends B) := by
      show (true, n) :: ends (i.row ++ .e (false, n) :: B) = _
      rw [ends_app]
      rfl
    rw [this] at nd
    exact nd
  obtain ⟨p1, p2, p3, p4, p5, p6⟩ := nodup_parts (d := ([] : List Tok)) nd'
  rw [mem_ends] at p1 p2 p3 p4 p5 p6
  have out : ∀ b, RI.e (b, n) ∉ A ∧ RI.e (b, n) ∉ i.row ∧ RI.e (b, n) ∉ B := fun b => by cases b; exact ⟨p4, p5, p6⟩; exact ⟨p1, p2, p3⟩
  refine ⟨A, i.row, B, e, GW.bal i, out, by rw [e, ix_at p1], ?_⟩
  rw [e, show A ++ .e (true, n) :: (i.row ++ .e (false, n) :: B) = (A ++ .e (true, n) :: i.row) ++ .e (false, n) :: B by simp, ix_at ?_]
  · rw [List.length_append, List.length_cons]
    omega
  · rw [List.mem_append, List.mem_cons]
    rintro (h | h | h)
    · exact p4 h
    · cases h
    · exact p5 h
theorem Ok.pair {r : List RI} (o : Ok r) (n : Str) : RI.e (true, n) ∈ r ↔ RI.e (false, n) ∈ r := by
  obtain ⟨w, rfl⟩ := gw_of (o.bal [])
  exact GW.pair w n
/-- both ends of a name, in a balanced stretch or outside of it -/
theorem Bal.pair {r : List RI} (h : Bal r) (n : Str) : RI.e (true, n) ∈ r ↔ RI.e (false, n) ∈ r := by
  obtain ⟨w, rfl⟩ := gw_of (h [])
  exact GW.pair w n
/-- a balanced stretch taken out -/
theorem Bal.rest {a x b : List RI} (h : Bal (a ++ (x ++ b))) (hx : Bal x) : Bal (a ++ b) := fun S => by
  have e := h S
  rw [run_app] at e ⊢
  cases ea : run S a with
  | none => rw [ea] at e; cases e
  | some T =>
    rw [ea] at e
    have e' : run T (x ++ b) = some S := e
    rw [run_app, hx T] at e'
    exact e'
theorem Bal.ins {a b x : List RI} (h : Bal (a ++ b)) (hx : Bal x) : Bal (a ++ (x ++ b)) := fun S => by
  have e := h S
  rw [run_app] at e ⊢
  cases ea : run S a with
  | none => rw [ea] at e; cases e
  | some T =>
    rw [ea] at e
    have e' : run T b = some S := e
    show run T (x ++ b) = some S
    rw [run_app, hx T]
    exact e'
end Tw

namespace Tw
open PySem PySem.Spec PyProof.Rows L2
/-! ### deeds on rows -/
inductive Wk where
  | first | last | ahead | behind | front | back | swap | turn | lift | cut | pour | wrap | put
deriving DecidableEq
def Wk.str : Wk → Str
  | .first => "first" | .last => "last" | .ahead => "ahead" | .behind => "behind" | .front => "front" | .back => "back" | .swap => "swap" | .turn => "turn" | .lift => "lift" | .cut => "cut" | .pour => "pour" | .wrap => "wrap" | .put => "put"
def Wk.one : Wk → Bool
  | .front => true | .back => true | .lift => true | .cut => true | _ => false
structure Dd where
  k : Wk
  a : Str
  b : Str
def Dd.ns (d : Dd) : List Str := if d.k.one = true then [d.a] else [d.a, d.b]
def Dd.D (d : Dd) : Dt := .tuple (.str d.k.str :: d.ns.map .str)
def Dd.old (d : Dd) : List Str := match d.k with
  | .wrap => [d.a]
  | .put => [d.b]
  | _ => d.ns
def Dd.new (d : Dd) : List Str := match d.k with
  | .wrap => [d.b]
  | .put => [d.a]
  | _ => []
abbrev Th (r : List RI) (n : Str) : Prop := RI.e (true, n) ∈ r
def blk (r : List RI) (n : Str) : List RI := (r.drop (ix (true, n) r)).take (ix (false, n) r + 1 - ix (true, n) r)
def wout (r : List RI) (n : Str) : List RI := r.take (ix (true, n) r) ++ r.drop (ix (false, n) r + 1)
/-- a is b or is in it -/
abbrev Wi (r : List RI) (a b : Str) : Prop := RI.e (true, a) ∈ blk r b
def isIns (r : List RI) (d : Dd) : Bool := match d.k with
  | .first => decide (Wi r d.b d.a)
  | .last => decide (Wi r d.b d.a)
  | .ahead => decide (Wi r d.b d.a)
  | .behind => decide (Wi r d.b d.a)
  | .pour => decide (Wi r d.b d.a)
  | .swap => decide (Wi r d.a d.b) || decide (Wi r d.b d.a)
  | _ => false
def stopF (r : List RI) (d : Dd) : Option Str :=
  if ¬ (∀ n ∈ d.old, Th r n) then some "gone" else if ∃ n ∈ d.new, Th r n then some "taken" else if isIns r d = true then some "inside" else none
def at6 (rest : List RI) (k : Wk) (b : Str) : Nat := match k with
  | .front => 0
  | .back => rest.length
  | .first => ix (true, b) rest + 1
  | .last => ix (false, b) rest
  | .ahead => ix (true, b) rest
  | _ => ix (false, b) rest + 1
def insAt (r : List RI) (k : Nat) (x : List RI) : List RI := r.take k ++ (x ++ r.drop k)
def movedF (r : List RI) (k : Wk) (a b : Str) : List RI := insAt (wout r a) (at6 (wout r a) k b) (blk r a)
def swapF1 (r : List RI) (a b : Str) : List RI := r.take (ix (true, a) r) ++ (blk r b ++ ((r.drop (ix (false, a) r + 1)).take (ix (true, b) r - (ix (false, a) r + 1)) ++ (blk r a ++ r.drop (ix (false, b) r + 1))))
def swapF (r : List RI) (a b : Str) : List RI := if ix (true, b) r < ix (true, a) r then swapF1 r b a else swapF1 r a b
def ren (a b n : Str) : Str := if n = a then b else if n = b then a else n
def renI (a b : Str) : RI → RI
  | .e p => .e (p.1, ren a b p.2)
  | .g k => .g k
def inn (r : List RI) (n : Str) : List RI := (r.drop (ix (true, n) r + 1)).take (ix (false, n) r - (ix (true, n) r + 1))
def lessI (r : List RI) (n : Str) : List RI := r.take (ix (true, n) r + 1) ++ r.drop (ix (false, n) r)
def doneF (r : List RI) (d : Dd) : List RI := match d.k with
  | .swap => swapF r d.a d.b
  | .turn => r.map (renI d.a d.b)
  | .pour => insAt (lessI r d.a) (ix (false, d.b) (lessI r d.a)) (inn r d.a)
  | .put => insAt r (ix (false, d.b) r) [.e (true, d.a), .e (false, d.a)]
  | .cut => wout r d.a
  | .lift => r.take (ix (true, d.a) r) ++ (inn r d.a ++ r.drop (ix (false, d.a) r + 1))
  | .wrap => r.take (ix (true, d.a) r) ++ (.e (true, d.b) :: (blk r d.a ++ .e (false, d.b) :: r.drop (ix (false, d.a) r + 1)))
  | k => movedF r k d.a d.b
/-! what the parts are, around a node -/
section
variable {r A I B : List RI} {n : Str} (s : Sp r n A I B)
include s
theorem Sp.take : r.take (ix (true, n) r) = A := by
  rw [s.i1]
  conv => lhs; rw [s.eq]
  simp
theorem Sp.drop : r.drop (ix (false, n) r + 1) = B := by
  rw [s.i2]
  conv => lhs; rw [s.eq]
  rw [show A ++ .e (true, n) :: (I ++ .e (false, n) :: B) = (A ++ .e (true, n) :: (I ++ [.e (false, n)])) ++ B by simp]
  exact List.drop_left' (by simp; omega)
theorem Sp.blk : blk r n = .e (true, n) :: (I ++ [.e (false, n)]) := by
  unfold Tw.blk
  rw [s.i1, s.i2]
  conv => lhs; rw [s.eq]
  rw [List.drop_left' rfl, show .e (true, n) :: (I ++ .e (false, n) :: B) = (.e (true, n) :: (I ++ [.e (false, n)])) ++ B by simp]
  exact List.take_left' (by simp; omega)
theorem Sp.wout : wout r n = A ++ B := by
  unfold Tw.wout
  rw [s.take, s.drop]
theorem Sp.inn : inn r n = I := by
  unfold Tw.inn
  rw [s.i1, s.i2]
  conv => lhs; rw [s.eq]
  rw [show A ++ .e (true, n) :: (I ++ .e (false, n) :: B) = (A ++ [.e (true, n)]) ++ (I ++ .e (false, n) :: B) by simp, List.drop_left' (by simp)]
  exact List.take_left' (by omega)
theorem Sp.lessI : lessI r n = A ++ (.e (true, n) :: .e (false, n) :: B) := by
  unfold Tw.lessI
  rw [s.i1, s.i2]
  have e1 : r.take (A.length + 1) = A ++ [.e (true, n)] := by
    conv => lhs; rw [s.eq]
    rw [show A ++ .e (true, n) :: (I ++ .e (false, n) :: B) = (A ++ [.e (true, n)]) ++ (I ++ .e (false, n) :: B) by simp]
    exact List.take_left' (by simp)
  have e2 : r.drop (A.length + 1 + I.length) = .e (false, n) :: B := by
    conv => lhs; rw [s.eq]
    rw [show A ++ .e (true, n) :: (I ++ .e (false, n) :: B) = (A ++ .e (true, n) :: I) ++ (.e (false, n) :: B) by simp]
    exact List.drop_left' (by simp; omega)
  rw [e1, e2]
  simp
theorem Sp.bb : Bal (Tw.blk r n) := by
  rw [s.blk]
  exact Bal.block s.bal
theorem Sp.whole : A ++ (Tw.blk r n ++ B) = r := by
  rw [s.blk]
  conv => rhs; rw [s.eq]
  simp
end
theorem Sp.rest {r A I B : List RI} {n : Str} (s : Sp r n A I B) (o : Ok r) : Bal (Tw.wout r n) := by
  rw [s.wout]
  refine Bal.rest (x := Tw.blk r n) ?_ s.bb
  rw [s.whole]
  exact o.bal
end Tw

namespace Tw
open PySem PySem.Spec PyProof.Rows L2
/-! ### swap and turn -/
def GW.ren (a b : Str) : GW → GW
  | .nil => .nil
  | .cons n i r => .cons (Tw.ren a b n) (i.ren a b) (r.ren a b)
  | .gap k r => .gap k (r.ren a b)
/-! ### a deed that does not stop leads to a row -/
end Tw

namespace Tw
open PySem PySem.Spec PyProof.Rows L2
/-! ### expressions that change nothing, part by part -/
def Ev (m : ME) (env : Env) (x : Dt) : Prop := ∀ te, m env te = .ok (.d x) env
theorem Ev.v {env : Env} {i : Nat} {x : Dt} (h : env[i]? = some (some (.d x))) : Ev (mVar i) env x := fun te => by
  rw [ev_mVar, h]
  rfl
theorem Ev.c {env : Env} {x : Dt} : Ev (mC x) env x := fun _ => rfl
theorem Ev.addT {ma mb : ME} {env : Env} {xs ys : List Dt} (ha : Ev ma env (.tuple xs)) (hb : Ev mb env (.tuple ys)) (h : xs.length + ys.length ≤ 100000) : Ev (mOp addA ma mb) env (.tuple (xs ++ ys)) := fun te => by
  have h' : xs.length + ys.length ≤ sizeLine := big h
  rw [ev_mOp, ha, zq00, ek_mOp_0, hb, zq00, ek_mOp_1]
  simp! [h']
theorem Ev.eq {ma mb : ME} {env : Env} {x y : Dt} {b : Bool} {g : Dt → Dt → Option Dt} (ha : Ev ma env x) (hb : Ev mb env y) (h : g x y = some (.bool b)) : Ev (mOp (fl2 g) ma mb) env (.bool b) := fun te => by
  rw [ev_mOp, ha, zq00, ek_mOp_0, hb, zq00, ek_mOp_1]
  simp! [h]
theorem Ev.tst {m : ME} {env : Env} {b : Bool} (h : Ev m env (.bool b)) (te : List A) : mTst m env te = .ok b env := by
  rw [show mTst m env te = (m env te).bind tstA from rfl, h, zq00]
  rfl
theorem Ev.ix {ma mb : ME} {env : Env} {xs : List Dt} {i : Int} {x : Dt} (ha : Ev ma env (.tuple xs)) (hb : Ev mb env (.int i)) (h : atI xs i = some x) : Ev (mOp ixA ma mb) env x := fun te => by
  rw [ev_mOp, ha, zq00, ek_mOp_0, hb, zq00, ek_mOp_1]
  simp! [h]
theorem Ev.d {m : ME} {env : Env} {x : Dt} (h : Ev m env x) : Ev (mD m) env x := fun te => by
  rw [ev_mD, h]
  rfl
theorem cutD_map {α β : Type} (f : α → β) (xs : List α) (lo hi : Option Int) : cutD (xs.map f) lo hi = (cutD xs lo hi).map f := by
  unfold cutD
  rw [List.length_map, List.map_take, List.map_drop]
theorem Ev.sl {m ml mh : ME} {env : Env} {xs : List Dt} {i j : Int} (h : Ev m env (.tuple xs)) (hl : Ev ml env (.int i)) (hh : Ev mh env (.int j)) : Ev (mSl m (mPart ml) (mPart mh)) env (.tuple (cutD xs (some i) (some j))) := fun te => by
  rw [ev_mSl, h, zq00, ek_mSl_0, ev_mPart, hl]
  simp only [zq00, ek_mPart_0]
  show Rs.bind (.ok (some i) env) _ = _
  rw [zq00, ek_mSl_1, ev_mPart, hh]
  simp!
theorem Ev.slF {m ml : ME} {env : Env} {xs : List Dt} {i : Int} (h : Ev m env (.tuple xs)) (hl : Ev ml env (.int i)) : Ev (mSl m (mPart ml) mNoPart) env (.tuple (cutD xs (some i) none)) := fun te => by
  rw [ev_mSl, h, zq00, ek_mSl_0, ev_mPart, hl]
  simp!
theorem Ev.sF {m ml : ME} {env : Env} {r : List RI} {i : Nat} (h : Ev m env (rowD r)) (hl : Ev ml env (.int i)) : Ev (mSl m (mPart ml) mNoPart) env (rowD (r.drop i)) := by
  have := Ev.slF h hl
  rw [cutD_map, cutD_from] at this
  exact this
theorem Ev.nil {env : Env} : ∀ te, mNil env te = .ok [] env := fun _ => rfl
def Evs (m : MA) (env : Env) (xs : List Dt) : Prop := ∀ te, m env te = .ok (xs.map .d) env
theorem Evs.nil {env : Env} : Evs mNil env [] := fun _ => rfl
theorem Evs.cons {m : ME} {ms : MA} {env : Env} {x : Dt} {xs : List Dt} (h : Ev m env x) (hs : Evs ms env xs) : Evs (mCons m ms) env (x :: xs) := fun te => by
  rw [ev_mCons, h, zq00, ek_mCons_0, hs, zq00]
  rfl
theorem dAll_d : ∀ xs : List Dt, dAll (xs.map .d) = some xs
  | [] => rfl
  | x :: xs => by
    show (dAll (xs.map .d)).map (x :: ·) = _
    rw [dAll_d xs]
    rfl
theorem Ev.tup {ms : MA} {env : Env} {xs : List Dt} (h : Evs ms env xs) (hl : xs.length ≤ 100000) : Ev (mTup ms) env (.tuple xs) := fun te => by
  have h' : xs.length ≤ sizeLine := big hl
  rw [ev_mTup, h, zq00]
  simp! [dAll_d, h']
theorem Ev.call {F : DF} {io : List Bool} {ms : MA} {env : Env} {xs : List Dt} {y : Dt} {ios : List A} (h : Evs ms env xs) (hio : io = xs.map fun _ => false) (hf : F (xs.map .d) = .ok (.d y) ios) : Ev (mCall (noXf F) io ms) env y := fun te => by
  have cv : ∀ xs : List Dt, cvAs (xs.map fun _ => false) (xs.map .d) env = some (xs.map fun x => ⟨.d x, none, none⟩) := by
    intro xs
    induction xs with
    | nil => rfl
    | cons x xs ih =>
      show (match cvA false env (.d x), cvAs (xs.map fun _ => false) (xs.map .d) env with | some g, some gs => some (g :: gs) | _, _ => none) = _
      rw [ih]
      rfl
  have io0 : ioS (xs.map fun x => (⟨.d x, none, none⟩ : Ag)) = [] := by
    unfold ioS
    rw [List.filterMap_map]
    exact List.filterMap_eq_nil_iff.mpr fun _ _ => rfl
  have br0 : brS (xs.map fun x => (⟨.d x, none, none⟩ : Ag)) = [] := by
    unfold brS
    rw [List.filterMap_map]
    exact List.filterMap_eq_nil_iff.mpr fun _ _ => rfl
  have ao : agOk env te (xs.map fun x => (⟨.d x, none, none⟩ : Ag)) = true := by
    unfold agOk
    rw [io0]
    rfl
  have am : (xs.map fun x => (⟨.d x, none, none⟩ : Ag)).map (·.a) = xs.map .d := by rw [List.map_map]; rfl
  have st : ∀ (zs : List Dt) (ios : List A), setIo env (zs.map fun x => (⟨.d x, none, none⟩ : Ag)) ios = env := by
    intro zs
    induction zs with
    | nil => intro ios; cases ios <;> rfl
    | cons z zs ih =>
      intro ios
      cases ios with
      | nil => rfl
      | cons i ios => exact ih ios
  rw [ev_mCall, h, zq00, hio]
  simp only [ek_mCall_0]
  rw [cv]
  show doCall (noXf F) env te _ = _
  unfold doCall
  rw [if_pos ao, am]
  unfold noXf
  rw [hf]
  show (if (brS _).isEmpty = true ∨ _ then Rs.ok (A.d y) (setIo env _ _) else .bad) = _
  rw [br0, if_pos (.inl rfl), st]
end Tw

namespace Tw
open PySem PySem.Spec PyProof.Rows L2
/-! ### the deeds' helpers -/
theorem gT2 {m : ME} {env e : Env} {te : List A} {i j : Nat} {x y : Dt} (h : m env te = .ok (.d (.tuple [x, y])) env) (h1 : gN i (.d x) env te = some e) {e' : Env} (h2 : gN j (.d y) e te = some e') : mAsg m (gT [i, j]) env te = .nx e' := by
  rw [ev_mAsg, h, ev_fl_ok]
  show (match ((gN i (.d x) env te).bind fun e => (gN j (.d y) e te).bind fun e => gTs [] [] e te) with | some e' => Fl.nx e' | none => .bad) = _
  rw [h1]
  show (match (gN j (.d y) e te).bind (fun e => gTs [] [] e te) with | some e' => Fl.nx e' | none => .bad) = _
  rw [h2]
  rfl
theorem Wk.inj : ∀ k k' : Wk, decide (k.str = k'.str) = decide (k = k') := by
  intro k k'
  cases k <;> cases k' <;> decide +kernel
theorem wk_eq (k k' : Wk) : eqD (.str k.str) (.str k'.str) = some (.bool (decide (k = k'))) := by
  rw [eqD_str, Wk.inj]
theorem atI_0 {α : Type} (x : α) (l : List α) : atI (x :: l) 0 = some x := atI_nat (j := 0) rfl
theorem Dd.at1 (d : Dd) : atI (.str d.k.str :: d.ns.map PyData.str) 1 = some (.str d.a) := by
  refine atI_nat (j := 1) ?_
  unfold Dd.ns
  split <;> rfl
theorem Dd.at2 (d : Dd) (h : d.k.one = false) : atI (.str d.k.str :: d.ns.map PyData.str) 2 = some (.str d.b) := by
  refine atI_nat (j := 2) ?_
  unfold Dd.ns
  rw [if_neg (by rw [h]; exact Bool.false_ne_true)]
  rfl
end Tw

namespace Tw
open PySem PySem.Spec PyProof.Rows L2
/-! ### names that hold data alone -/
def deB : Env → Bool
  | [] => true
  | none :: e => deB e
  | some (.d _) :: e => deB e
  | _ :: _ => false
theorem deB_rf : ∀ {env : Env}, deB env = true → ∀ i, inE (isRf i) env = false
  | [], _, i => rfl
  | none :: e, h, i => by rw [inE_cons, cB_none, deB_rf (env := e) h]; rfl
  | some (.d x) :: e, h, i => by rw [inE_cons, cB_some, deB_rf (env := e) h]; rfl
theorem deB_io : ∀ {env : Env}, deB env = true → ∀ i : Nat, nIo env[i]? = true
  | [], _, i => rfl
  | none :: e, h, 0 => rfl
  | some (.d x) :: e, h, 0 => rfl
  | none :: e, h, i + 1 => deB_io (env := e) h i
  | some (.d x) :: e, h, i + 1 => deB_io (env := e) h i
theorem gN_d {env : Env} {i : Nat} {x : Dt} (hd : deB env = true) (hi : i < env.length) : gN i (.d x) env [] = some (env.set i (some (.d x))) := by
  refine if_pos ?_
  rw [ev_setOk, deB_io hd]
  unfold anyC
  rw [deB_rf hd]
  simp [hi, isRf, isIo]
theorem Asg.d {m : ME} {env : Env} {i : Nat} {x : Dt} (h : Ev m env x) (hd : deB env = true) (hi : i < env.length) : mAsg m (gN i) env [] = .nx (env.set i (some (.d x))) := by
  rw [ev_mAsg, h, ev_fl_ok]
  show (match gN i (.d x) env [] with | some e' => Fl.nx e' | none => .bad) = _
  rw [gN_d hd hi]
theorem deB_set : ∀ {env : Env}, deB env = true → ∀ (i : Nat) (x : Dt), deB (env.set i (some (.d x))) = true
  | [], _, _, _ => rfl
  | none :: e, h, 0, x => h
  | some (.d y) :: e, h, 0, x => h
  | none :: e, h, i + 1, x => deB_set (env := e) h i x
  | some (.d y) :: e, h, i + 1, x => deB_set (env := e) h i x
theorem Asg.t {m : ME} {env : Env} {i j : Nat} {x y : Dt} (h : Ev m env (.tuple [x, y])) (hd : deB env = true) (hi : i < env.length) (hj : j < env.length) : mAsg m (gT [i, j]) env [] = .nx ((env.set i (some (.d x))).set j (some (.d y))) :=
  gT2 (h []) (gN_d hd hi) (gN_d (deB_set hd i x) (by rw [List.length_set]; exact hj))
/-- a comprehension among data -/
theorem Ev.lc {mi : MI} {tt : MT} {el : ME} {j : Nat} {env : Env} {te : List A} {D : Dt} {xs : List Dt} (p : Dt → Bool) (f : Dt → Dt) (hm : mi env te = .ok ([.d D], fun _ => some xs) env) (hd : deB env = true) (hj : env[j]? = some none) (hl : xs.length ≤ 100000) (ht0 : te.any (isRf j) = false)
    (ht : ∀ x ∈ xs, ∀ te, tt (env.set j (some (.d x))) te = .ok (p x) (env.set j (some (.d x)))) (he : ∀ x ∈ xs, p x = true → Ev el (env.set j (some (.d x))) (f x)) : mLc .d mi (gN j) tt el [j] env te = .ok (.own (.l ((xs.filter p).map f))) env := by
  refine lc_gen (as := [.d D]) p f hm hj ?_ hl (fun x hx acc => ht x hx _) (fun x hx hp acc => he x hx hp _)
  unfold anyC
  rw [deB_rf hd, List.any_append, ht0]
  rfl
theorem seqI_ev {m : ME} {env : Env} {te : List A} {xs : List Dt} (h : Ev m env (.tuple xs)) : mSeqI m env te = .ok ([.d (.tuple xs)], fun _ => some xs) env := seqI_ok (h te) (.inr rfl)
theorem all_ev {mi : MI} {el : ME} {j : Nat} {env : Env} {D : Dt} {xs : List Dt} (f : Dt → Bool) (hm : ∀ te, mi env te = .ok ([.d D], fun _ => some xs) env) (hd : deB env = true) (hj : env[j]? = some none) (hl : xs.length ≤ 100000) (he : ∀ x ∈ xs, Ev el (env.set j (some (.d x))) (.bool (f x))) : (mCB (one allA) (mCons (mLc .d mi (gN j) mYes el [j]) mNil) env [] = .ok (.d (.bool (xs.all f))) env) ∧ (mCB (one anyA) (mCons (mLc .d mi (gN j) mYes el [j]) mNil) env [] = .ok (.d (.bool (xs.any f))) env) := by
  have h := Ev.lc (mi := mi) (tt := mYes) (el := el) (te := []) (fun _ => true) (fun x => .bool (f x)) (hm []) hd hj hl rfl (fun _ _ _ => rfl) (fun x hx _ => he x hx)
  rw [List.filter_eq_self.mpr (fun _ _ => rfl)] at h
  have hb := boolsD_map f xs
  generalize mLc _ _ _ _ _ _ = ML at h ⊢
  generalize xs.map (fun x => PyData.bool (f x)) = BB at h hb
  constructor
  · rw [ev_mCB, ev_mCons, h]
    simp only [zq00, ek_mCons_0]
    rw [show mNil env (A.own (Ow.l BB) :: []) = .ok [] env from rfl]
    simp! [hb]
  · rw [ev_mCB, ev_mCons, h]
    simp only [zq00, ek_mCons_0]
    rw [show mNil env (A.own (Ow.l BB) :: []) = .ok [] env from rfl]
    simp! [hb]
/-- the names of a deed are short -/
def Dd.sm (d : Dd) : Prop := d.a.length ≤ 1000 ∧ d.b.length ≤ 1000
theorem and_ev {ma mb : MT} {env : Env} {te : List A} {a b : Bool} (ha : ma env te = .ok a env) (hb : a = true → mb env te = .ok b env) : mAnd ma mb env te = .ok (a && b) env := by
  rw [ev_mAnd, ha, zq00]
  simp only [ek_mAnd_0]
  cases a with
  | true => simpa using hb rfl
  | false => rfl
theorem or_ev {ma mb : MT} {env : Env} {te : List A} {a b : Bool} (ha : ma env te = .ok a env) (hb : a = false → mb env te = .ok b env) : mOr ma mb env te = .ok (a || b) env := by
  rw [ev_mOr, ha, zq00]
  simp only [ek_mOr_0]
  cases a with
  | false => simpa using hb rfl
  | true => rfl
theorem not_ev {ma : MT} {env : Env} {te : List A} {a : Bool} (ha : ma env te = .ok a env) : mNot ma env te = .ok (!a) env := by
  rw [ev_mNot, ha, zq00]
  rfl
end Tw

namespace Tw
open PySem PySem.Spec PyProof.Rows L2
theorem ifS_F {c : MT} {a b : MS} {env : Env} {te : List A} (h : c env te = .ok false env) : mIfS c a b env te = b env te := by
  rw [ev_mIfS, h, ev_fl_ok]
  rfl
def Wk.mv : Wk → Bool
  | .first => true | .last => true | .ahead => true | .behind => true | .front => true | .back => true | _ => false
end Tw

namespace Tw
open PySem PySem.Spec PyProof.Rows L2
theorem ltD_nat (i j : Nat) : ltD (.int i) (.int j) = some (.bool (decide (i < j))) := by simp [ltD]
end Tw

namespace Tw
open PySem PySem.Spec PyProof.Rows L2
end Tw

namespace Tw
open PySem PySem.Spec PyProof.Rows L2
theorem deB_od (y : Option Dt) (e : Env) : deB (od y :: e) = deB e := by cases y <;> rfl
theorem gN_dt {env : Env} {i : Nat} {x : Dt} {te : List A} (hd : deB env = true) (hi : i < env.length) (ht : te.any (isRf i) = false) : gN i (.d x) env te = some (env.set i (some (.d x))) := by
  refine if_pos ?_
  rw [ev_setOk, deB_io hd]
  unfold anyC
  rw [deB_rf hd, List.any_cons, ht]
  simp [hi, isRf, isIo]
theorem Asg.dt {m : ME} {env : Env} {i : Nat} {x : Dt} {te : List A} (h : Ev m env x) (hd : deB env = true) (hi : i < env.length) (ht : te.any (isRf i) = false) : mAsg m (gN i) env te = .nx (env.set i (some (.d x))) := by
  rw [ev_mAsg, h, ev_fl_ok]
  show (match gN i (.d x) env te with | some e' => Fl.nx e' | none => .bad) = _
  rw [gN_dt hd hi ht]
/-! ### a row of deeds -/
def doneAll (i : Nat) (r : List RI) : List Dd → (Nat × Str) ⊕ List RI
  | [] => .inr r
  | d :: ds => match stopF r d with
    | some z => .inl (i, z)
    | none => doneAll (i + 1) (doneF r d) ds
def resD : (Nat × Str) ⊕ List RI → Dt
  | .inl (i, z) => .tuple [.str "stops", .int (i : Nat), .str z]
  | .inr r => .tuple [.str "does", rowD r]
/-! ### rows of woods -/
def Wd.rows (w : Wd) : List RI := w.toks.map RI.e
theorem Wd.rowD (w : Wd) : Tw.rowD w.rows = .tuple w.tks := by
  show PyData.tuple ((w.toks.map RI.e).map RI.D) = _
  rw [List.map_map]
  rfl
theorem ends_map : ∀ l : List Tok, ends (l.map RI.e) = l
  | [] => rfl
  | p :: l => congrArg (p :: ·) (ends_map l)
def Wd.gw : Wd → GW
  | .nil => .nil
  | .cons n i r => .cons n i.gw r.gw
theorem Wd.gw_row : ∀ w : Wd, w.gw.row = w.rows
  | .nil => rfl
  | .cons n i r => by
    show RI.e (true, n) :: (i.gw.row ++ RI.e (false, n) :: r.gw.row) = ((true, n) :: (i.toks ++ (false, n) :: r.toks)).map RI.e
    rw [Wd.gw_row i, Wd.gw_row r, List.map_cons, List.map_append, List.map_cons]
    rfl
theorem Wd.ok {w : Wd} (nd : w.names.Nodup) : Ok w.rows := ⟨by rw [← Wd.gw_row]; exact GW.bal _, by show (ends (w.toks.map RI.e)).Nodup; rw [ends_map]; exact toks_nodup nd⟩
def GW.wd : GW → Wd
  | .nil => .nil
  | .cons n i r => .cons n i.wd r.wd
  | .gap _ r => r.wd
theorem Wd.th {w : Wd} {n : Str} : Th w.rows n ↔ n ∈ w.names := by
  show RI.e (true, n) ∈ w.toks.map RI.e ↔ _
  rw [List.mem_map, ← toks_names2 true]
  constructor
  · rintro ⟨p, hp, e⟩
    cases e
    exact hp
  · intro h
    exact ⟨_, h, rfl⟩
/-- names of deeds are names -/
def Dd.nm (d : Dd) : Prop := IsNm d.a ∧ IsNm d.b
end Tw

namespace Tw
open PySem PySem.Spec PyProof.Rows L2
/-! ### the law's own blocks -/
end Tw

namespace Tw
open PySem PySem.Spec PyProof.Rows L2
end Tw

namespace Tw
open PySem PySem.Spec PyProof.Rows L2
/-! ### names that hold data or things of their own -/
def owB : Env → Bool
  | [] => true
  | none :: e => owB e
  | some (.d _) :: e => owB e
  | some (.own _) :: e => owB e
  | _ :: _ => false
theorem owB_rf : ∀ {env : Env}, owB env = true → ∀ i, inE (isRf i) env = false
  | [], _, i => rfl
  | none :: e, h, i => by rw [inE_cons, cB_none, owB_rf (env := e) h]; rfl
  | some (.d x) :: e, h, i => by rw [inE_cons, cB_some, owB_rf (env := e) h]; rfl
  | some (.own x) :: e, h, i => by rw [inE_cons, cB_some, owB_rf (env := e) h]; rfl
theorem owB_io : ∀ {env : Env}, owB env = true → ∀ i : Nat, nIo env[i]? = true
  | [], _, i => rfl
  | none :: e, h, 0 => rfl
  | some (.d x) :: e, h, 0 => rfl
  | some (.own x) :: e, h, 0 => rfl
  | none :: e, h, i + 1 => owB_io (env := e) h i
  | some (.d x) :: e, h, i + 1 => owB_io (env := e) h i
  | some (.own x) :: e, h, i + 1 => owB_io (env := e) h i
theorem Asg.o {m : ME} {env : Env} {i : Nat} {x : Dt} {te : List A} (h : Ev m env x) (hd : owB env = true) (hi : i < env.length) (ht : te.any (isRf i) = false) : mAsg m (gN i) env te = .nx (env.set i (some (.d x))) := by
  rw [ev_mAsg, h, ev_fl_ok]
  have g : gN i (.d x) env te = some (env.set i (some (.d x))) := by
    refine if_pos ?_
    rw [ev_setOk, owB_io hd]
    unfold anyC
    rw [owB_rf hd, List.any_cons, ht]
    simp [hi, isRf, isIo]
  show (match gN i (.d x) env te with | some e' => Fl.nx e' | none => .bad) = _
  rw [g]
/-! ### lift and pour as the law asks for them -/
end Tw

namespace Tw
open PySem PySem.Spec PyProof.Rows L2
theorem Ev.neg {m : ME} {env : Env} {i : Int} (h : Ev m env (.int i)) : Ev (mU (fl1 negD) m) env (.int (-i)) := fun te => by
  rw [ev_mU, h]
  simp! [negD]
theorem Ev.cutT {env : Env} {j : Nat} {p : Tok} (h : env[j]? = some (some (.d (tkD p)))) (hl : p.2.length ≤ 1000) : Ev (mSl (mVar j) (mPart (mC (.int 1))) mNoPart) env (.str p.2) := fun te => cut_tk h hl
end Tw

namespace Tw
open PySem PySem.Spec PyProof.Rows L2
theorem gtD_nat (i j : Nat) : gtD (.int i) (.int j) = some (.bool (decide (j < i))) := by simp [gtD]
end Tw

namespace Tw
open PySem PySem.Spec PyProof.Rows L2
/-! ### what raises -/
theorem seq_nx {m n : MS} {env e : Env} {te : List A} (h : m env te = .nx e) : mSeq m n env te = n e te := by
  show (m env te).th _ = _
  rw [h]
  rfl
theorem call_data {F : DF} {io : List Bool} {ms : MA} {env : Env} {xs : List Dt} {te : List A} (h : Evs ms env xs) (hio : io = xs.map fun _ => false) : mCall F io ms env te = match F (xs.map .d) with
    | .ok r _ => .ok r env
    | .ex x _ => .ex x env
    | .bad => .bad := by
  have cv : ∀ xs : List Dt, cvAs (xs.map fun _ => false) (xs.map .d) env = some (xs.map fun x => ⟨.d x, none, none⟩) := by
    intro xs
    induction xs with
    | nil => rfl
    | cons x xs ih =>
      show (match cvA false env (.d x), cvAs (xs.map fun _ => false) (xs.map .d) env with | some g, some gs => some (g :: gs) | _, _ => none) = _
      rw [ih]
      rfl
  have io0 : ioS (xs.map fun x => (⟨.d x, none, none⟩ : Ag)) = [] := by
    unfold ioS
    rw [List.filterMap_map]
    exact List.filterMap_eq_nil_iff.mpr fun _ _ => rfl
  have br0 : brS (xs.map fun x => (⟨.d x, none, none⟩ : Ag)) = [] := by
    unfold brS
    rw [List.filterMap_map]
    exact List.filterMap_eq_nil_iff.mpr fun _ _ => rfl
  have ao : agOk env te (xs.map fun x => (⟨.d x, none, none⟩ : Ag)) = true := by
    unfold agOk
    rw [io0]
    rfl
  have am : (xs.map fun x => (⟨.d x, none, none⟩ : Ag)).map (·.a) = xs.map .d := by rw [List.map_map]; rfl
  have st : ∀ (zs : List Dt) (ios : List A), setIo env (zs.map fun x => (⟨.d x, none, none⟩ : Ag)) ios = env := by
    intro zs
    induction zs with
    | nil => intro ios; cases ios <;> rfl
    | cons z zs ih =>
      intro ios
      cases ios with
      | nil => rfl
      | cons i ios => exact ih ios
  rw [ev_mCall, h, zq00, hio]
  simp only [ek_mCall_0]
  rw [cv]
  show doCall F env te _ = _
  unfold doCall
  rw [if_pos ao, am]
  cases F (xs.map .d) with
  | bad => rfl
  | ok r ios =>
    show (if (brS _).isEmpty = true ∨ _ then Rs.ok r (setIo env _ _) else .bad) = _
    rw [br0, if_pos (.inl rfl), st]
  | ex x ios =>
    show (if (brS _).isEmpty = true ∨ _ then Rs.ex x (setIo env _ _) else .bad) = _
    rw [br0, if_pos (.inl rfl), st]
end Tw

namespace Tw
open PySem PySem.Spec PyProof.Rows L2
theorem lst_ev {ms : MA} {env : Env} {xs : List Dt} {te : List A} (h : Evs ms env xs) (hl : xs.length ≤ 100000) : mLst ms env te = .ok (.own (.l xs)) env := by
  show (ms env te).bind _ = _
  rw [h, zq00, dAll_d]
  exact if_pos (big hl)
theorem Ev.ifE {c : MT} {ma mb : ME} {env : Env} {b : Bool} {x : Dt} (hc : ∀ te, c env te = .ok b env) (h1 : b = true → Ev ma env x) (h2 : b = false → Ev mb env x) : Ev (mIfE c ma mb) env x := fun te => by
  show (c env te).bind _ = _
  rw [hc, zq00]
  cases b with
  | true => exact h1 rfl te
  | false => exact h2 rfl te
end Tw

namespace Tw
open PySem PySem.Spec PyProof.Rows L2
/-! ### names that hold plain things -/
def plB : Env → Bool
  | [] => true
  | none :: e => plB e
  | some (.d _) :: e => plB e
  | some (.own _) :: e => plB e
  | some (.sc _) :: e => plB e
  | _ :: _ => false
theorem plB_rf : ∀ {env : Env}, plB env = true → ∀ i, inE (isRf i) env = false
  | [], _, i => rfl
  | none :: e, h, i => by rw [inE_cons, cB_none, plB_rf (env := e) h]; rfl
  | some (.d x) :: e, h, i => by rw [inE_cons, cB_some, plB_rf (env := e) h]; rfl
  | some (.own x) :: e, h, i => by rw [inE_cons, cB_some, plB_rf (env := e) h]; rfl
  | some (.sc x) :: e, h, i => by rw [inE_cons, cB_some, plB_rf (env := e) h]; rfl
theorem plB_io : ∀ {env : Env}, plB env = true → ∀ i : Nat, nIo env[i]? = true
  | [], _, i => rfl
  | none :: e, h, 0 => rfl
  | some (.d x) :: e, h, 0 => rfl
  | some (.own x) :: e, h, 0 => rfl
  | some (.sc x) :: e, h, 0 => rfl
  | none :: e, h, i + 1 => plB_io (env := e) h i
  | some (.d x) :: e, h, i + 1 => plB_io (env := e) h i
  | some (.own x) :: e, h, i + 1 => plB_io (env := e) h i
  | some (.sc x) :: e, h, i + 1 => plB_io (env := e) h i
theorem gN_pl {env : Env} {i : Nat} {a : A} {te : List A} (hd : plB env = true) (hi : i < env.length) (ht : te.any (isRf i) = false) (ha : (∃ x, a = .d x) ∨ (∃ o, a = .own o)) : gN i a env te = some (env.set i (some a)) := by
  refine if_pos ?_
  rw [ev_setOk, plB_io hd]
  unfold anyC
  rw [plB_rf hd, List.any_cons, ht]
  rcases ha with ⟨x, rfl⟩ | ⟨x, rfl⟩ <;> simp [hi, isRf, isIo]
theorem Asg.pl {m : ME} {env : Env} {i : Nat} {a : A} {te : List A} (h : m env te = .ok a env) (hd : plB env = true) (hi : i < env.length) (ht : te.any (isRf i) = false) (ha : (∃ x, a = .d x) ∨ (∃ o, a = .own o)) : mAsg m (gN i) env te = .nx (env.set i (some a)) := by
  rw [ev_mAsg, h, ev_fl_ok]
  show (match gN i a env te with | some e' => Fl.nx e' | none => .bad) = _
  rw [gN_pl hd hi ht ha]
theorem call_own {F : DF} {io : List Bool} {ms : MA} {env : Env} {xs : List Dt} {o : Ow} {ios : List A} {te : List A} (h : Evs ms env xs) (hio : io = xs.map fun _ => false) (hf : F (xs.map .d) = .ok (.own o) ios) : mCall (noXf F) io ms env te = .ok (.own o) env := by
  rw [call_data h hio]
  unfold noXf
  rw [hf]
  rfl
theorem seqI_lst {m : ME} {env : Env} {xs : List Dt} {te : List A} (h : Ev m env (.list xs)) : mSeqI m env te = .ok ([.d (.list xs)], fun _ => some xs) env := by
  show (m env te).bind _ = _
  rw [h, zq00]
  rfl
theorem Ev.dl {ms : MA} {env : Env} {xs : List Dt} (h : Evs ms env xs) (hl : xs.length ≤ 100000) : Ev (mD (mLst ms)) env (.list xs) := fun te => by
  show (mLst ms env te).bind _ = _
  rw [lst_ev h hl, zq00]
  rfl
end Tw

namespace Tw
open PySem PySem.Spec PyProof.Rows L2
/-! ### scripts that are drawn -/
def wks : List Wk := [.first, .last, .ahead, .behind, .front, .back, .swap, .turn, .lift, .cut, .pour, .wrap, .put]
theorem words_fn : f_wordsL [] = .ok (.own (.l (wks.map fun k => .str k.str))) [] := by
  have s13 : 13 ≤ sizeLine := big (by decide)
  have s7 : 7 ≤ sizeLine := big (by decide)
  have s6 : 6 ≤ sizeLine := big (by decide)
  simp! [f_wordsL, m_wordsL, runM, endM, s13, s7, s6]
  rfl
theorem one_in (k : Wk) : inD false (.str k.str) (.tuple [.str "front", .str "back", .str "lift", .str "cut"]) = some (.bool k.one) := by
  have h := inD_tup false k.str ["front", "back", "lift", "cut"]
  have e : decide (k.str ∈ (["front", "back", "lift", "cut"] : List Str)) = k.one := by cases k <;> decide +kernel
  rw [e] at h
  exact h
theorem some_deed_ok (g m c : Int) (S : List Str) (h0 : S ≠ []) (h1 : S.length ≤ 100000) : ∃ (d : Dd) (g' c' : Int), d.a ∈ S ∧ d.b ∈ S ∧ f_some_deedL_v1 [.io (Dkv g m c), .d (.list (S.map .str))] = .ok (.d d.D) [.io (Dkv g' m c'), .d (.list (S.map .str))] := by
  obtain ⟨x, hx, g1, c1, q1⟩ := pick_ok g m c (wks.map fun k => .str k.str) (by simp [wks]) (by simp [wks]) .list (.inl rfl)
  obtain ⟨k, hk, rfl⟩ := List.mem_map.mp hx
  obtain ⟨a, ha, g2, c2, q2⟩ := pick_str g1 m c1 S h0 h1
  obtain ⟨b, hb, g3, c3, q3⟩ := pick_str g2 m c2 S h0 h1
  have s4 : 4 ≤ sizeLine := big (by decide)
  have s3 : 3 ≤ sizeLine := big (by decide)
  have s2 : 2 ≤ sizeLine := big (by decide)
  have w1 := words_fn
  have t := one_in k
  suffices h : DOk (fun r ios => ∃ (d : Dd) (g' c' : Int), d.a ∈ S ∧ d.b ∈ S ∧ r = .d d.D ∧ ios = [.io (Dkv g' m c'), .d (.list (S.map .str))]) (f_some_deedL_v1 [.io (Dkv g m c), .d (.list (S.map .str))]) by
    obtain ⟨r, ios, e, d, g', c', h1, h2, rfl, rfl⟩ := h.ex
    exact ⟨d, g', c', h1, h2, e⟩
  unfold f_some_deedL_v1
  refine run_ok ?_
  unfold m_some_deedL_v1
  generalize f_pickL = F at q1 q2 q3 ⊢
  generalize f_wordsL = F2 at w1 ⊢
  generalize (wks.map fun k => PyData.str k.str) = LW at q1 w1
  generalize hL : S.map PyData.str = L at q2 q3 ⊢
  refine FP.st (e := [some (.io (Dkv g1 m c1)), some (.d (.list L)), some (.d (.str k.str))]) (by simp! [q1, w1]) ?_
  refine FP.sq ?_
  cases ho : k.one with
  | true =>
    rw [ho] at t
    refine FP.ifT (e := [some (.io (Dkv g1 m c1)), some (.d (.list L)), some (.d (.str k.str))]) (by simp! [t, s4]) ?_
    refine FP.ret (a := .d (.tuple [.str k.str, .str a])) (e := [some (.io (Dkv g2 m c2)), some (.d (.list L)), some (.d (.str k.str))]) (by simp! [q2, s2]) ⟨_, rfl, ⟨k, a, a⟩, g2, c2, ha, ha, ?_, rfl⟩
    show _ = A.d (PyData.tuple (.str k.str :: (if k.one = true then [a] else [a, a]).map .str))
    rw [ho]
    rfl
  | false =>
    rw [ho] at t
    refine FP.ifF (e := [some (.io (Dkv g1 m c1)), some (.d (.list L)), some (.d (.str k.str))]) (by simp! [t, s4]) (.nx ?_)
    refine FP.ret (a := .d (.tuple [.str k.str, .str a, .str b])) (e := [some (.io (Dkv g3 m c3)), some (.d (.list L)), some (.d (.str k.str))]) (by simp! [q2, q3, s3]) ⟨_, rfl, ⟨k, a, b⟩, g3, c3, ha, hb, ?_, rfl⟩
    show _ = A.d (PyData.tuple (.str k.str :: (if k.one = true then [a] else [a, b]).map .str))
    rw [ho]
    rfl
/-! ### old and new names -/
def rlPut (c : Bool) (n : Str) (p : List Str × List Str) : List Str × List Str := if n ∈ p.1 ++ p.2 then p else if c = true then (p.1, p.2 ++ [n]) else (p.1 ++ [n], p.2)
def Dd.made (d : Dd) : Nat := match d.k with
  | .wrap => 2
  | .put => 1
  | _ => 0
def rlGo (M : Nat) : Nat → List Str → List Str × List Str → List Str × List Str
  | _, [], p => p
  | k, n :: r, p => rlGo M (k + 1) r (rlPut (decide (k = M)) n p)
def rlF : List Dd → List Str × List Str → List Str × List Str
  | [], p => p
  | d :: ds, p => rlF ds (rlGo d.made 1 d.ns p)
def rlZ (p : List Str × List Str) : Nat := p.1.length + p.2.length
theorem rlPut_len (c : Bool) (n : Str) (p : List Str × List Str) : rlZ (rlPut c n p) ≤ rlZ p + 1 := by
  unfold rlPut rlZ
  split
  · omega
  · split <;> simp <;> omega
def rolE (T : List Dt) (p : List Str × List Str) (y3 y4 y5 : Option A) : Env := [some (.d (.tuple T)), some (.own (.l (p.1.map .str))), some (.own (.l (p.2.map .str))), y3, y4, y5]
theorem role_step {T X : List Dt} {p : List Str × List Str} {M j : Nat} {n : Str} (ha : atI X (j : Int) = some (.str n)) (hz : rlZ p ≤ 1000) :
    mIfS (mTst (mOp (fl2 (inD true)) (mOp ixA (mVar 3) (mVar 5)) (mOp addA (mVar 1) (mVar 2)))) (mIfS (mTst (mOp (fl2 eqD) (mVar 5) (mVar 4))) (mDrop (mMeth appA (mVar 2) (mCons (mD (mOp ixA (mVar 3) (mVar 5))) mNil))) (mDrop (mMeth appA (mVar 1) (mCons (mD (mOp ixA (mVar 3) (mVar 5))) mNil)))) mNext (rolE T p (some (.d (.tuple X))) (some (.d (.int (M : Nat)))) (some (.d (.int (j : Nat))))) [.d (.tuple T)] = .nx (rolE T (rlPut (decide (j = M)) n p) (some (.d (.tuple X))) (some (.d (.int (M : Nat)))) (some (.d (.int (j : Nat))))) := by
  have hin := inD_list true n (p.1 ++ p.2)
  rw [List.map_append] at hin
  unfold rlZ at hz
  have s1 : p.1.length + p.2.length ≤ sizeLine := big (by omega)
  have s2 : p.1.length < sizeLine := big' (by omega)
  have s3 : p.2.length < sizeLine := big' (by omega)
  unfold rlPut
  by_cases c : n ∈ p.1 ++ p.2
  · rw [if_pos c]
    rw [decide_eq_true c] at hin
    simp! [rolE, ha, hin, s1]
  · rw [if_neg c]
    rw [decide_eq_false c] at hin
    by_cases c2 : j = M
    · rw [decide_eq_true c2, if_pos rfl]
      subst c2
      simp! [rolE, ha, hin, s1, s3, eqD_int]
    · rw [decide_eq_false c2, if_neg Bool.false_ne_true]
      have c3 : ¬ ((j : Int) = (M : Int)) := fun h => c2 (by omega)
      simp! [rolE, ha, hin, s1, s2, eqD_int, c3]
theorem dWP {env : Env} : Ev (mD (mDisp [((mC (.str "wrap")), (mC (.int 2))), ((mC (.str "put")), (mC (.int 1)))])) env (.dict [(.str "wrap", .int 2), (.str "put", .int 1)]) := fun te => by
  have e : mDisp [((mC (.str "wrap")), (mC (.int 2))), ((mC (.str "put")), (mC (.int 1)))] env te = .ok (.own (.dc [(.inr "wrap", .int 2), (.inr "put", .int 1)])) env := rfl
  show Rs.bind (mDisp _ env te) _ = _
  rw [e, zq00]
  rfl
theorem Ev.dget2 {md mk mx : ME} {env : Env} {kvs : List (Dt × Dt)} {z : Str} {y : Dt} (hd : Ev md env (.dict kvs)) (hk : Ev mk env (.str z)) (hx : Ev mx env y) : Ev (mDGet2 md mk mx) env (match lkDD kvs (.inr z) with | some x => x | none => y) := fun te => by
  show Rs.bind (md env te) _ = _
  rw [hd, zq00]
  show (if isDct env (.d (.dict kvs)) = true then _ else _) = _
  rw [if_pos (show isDct env (.d (.dict kvs)) = true from rfl)]
  show Rs.bind (mk env _) _ = _
  rw [hk, zq00]
  show Rs.bind (mx env _) _ = _
  rw [hx, zq00]
  show (match dgO env (.d (.dict kvs)) (.inr z) with | some (.dt x) => Rs.ok (A.d x) env | some .no => .ok (.d y) env | _ => .bad) = _
  have e : dgO env (.d (.dict kvs)) (.inr z) = some (match lkDD kvs (.inr z) with | some x => .dt x | none => .no) := rfl
  rw [e]
  cases lkDD kvs (.inr z) <;> rfl
theorem made_in (d : Dd) {env : Env} (h : env[3]? = some (some (.d d.D))) : Ev (mDGet2 (mD (mDisp [((mC (.str "wrap")), (mC (.int 2))), ((mC (.str "put")), (mC (.int 1)))])) (mOp ixA (mVar 3) (mC (.int 0))) (mC (.int 0))) env (.int (d.made : Nat)) := by
  obtain ⟨k, a, b⟩ := d
  have q := Ev.dget2 (env := env) dWP (Ev.ix (Ev.v h) (Ev.c (x := .int 0)) (atI_0 _ _)) (Ev.c (x := .int 0))
  cases k <;> exact q
theorem intsD_cons (k : Nat) (l : List Str) (n : Str) : intsD ((k : Nat) : Int) (n :: l).length = .int ((k : Nat) : Int) :: intsD ((k + 1 : Nat) : Int) l.length := by
  unfold intsD
  rw [List.length_cons, List.range_succ_eq_map, List.map_cons, List.map_map]
  congr 1
  · simp
    intro a _
    omega
theorem rng2_int {ma mb : ME} {env : Env} {te : List A} {i j : Int} (hi : -(2 ^ 62) ≤ i ∧ i < 2 ^ 62) (hj : -(2 ^ 62) ≤ j ∧ j < 2 ^ 62) (h1 : ma env te = .ok (.d (.int i)) env) (h2 : ∀ te, mb env te = .ok (.d (.int j)) env) : mRng2 ma mb env te = .ok ([], fun _ => some (intsD i (j - i).toNat)) env := by
  unfold mRng2
  rw [h1, zq00, h2, zq00]
  exact if_pos ⟨hi.1, hi.2, hj.1, hj.2⟩
theorem rng2_nat {ma mb : ME} {env : Env} {te : List A} {i n : Nat} (hn : i + n ≤ 100000) (h1 : ma env te = .ok (.d (.int i)) env) (h2 : ∀ te, mb env te = .ok (.d (.int ((i + n : Nat) : Int))) env) : mRng2 ma mb env te = .ok ([], fun _ => some (intsD (i : Int) n)) env := by
  have h := rng2_int (i := i) (j := ((i + n : Nat) : Int)) (by omega) (by omega) h1 h2
  have e : (((i + n : Nat) : Int) - (i : Int)).toNat = n := by omega
  rw [e] at h
  exact h
theorem roles_fn (ds : List Dd) (hl : ds.length ≤ 30) : f_rolesL [.d (.tuple (ds.map Dd.D))] = .ok (.d (.tuple [.tuple ((srtS (rlF ds ([], [])).1).map .str), .tuple ((srtS (rlF ds ([], [])).2).map .str)])) [.d (.tuple (ds.map Dd.D))] := by
  refine ok_of ?_
  unfold f_rolesL
  refine run_ok ?_
  unfold m_rolesL
  generalize hT : ds.map Dd.D = T
  refine FP.st (e := rolE T ([], []) none none none) (by simp! [rolE]) ?_
  refine FP.sq ?_
  refine fp_for (as := [.d (.tuple T)]) (xs := T) (fun r e => ∃ (q : List Dd) (p : List Str × List Str) (y3 y4 y5 : Option A), r = q.map Dd.D ∧ rlF q p = rlF ds ([], []) ∧ rlZ p + 2 * q.length ≤ 60 ∧ (∃ x3 x4 x5, y3 = od x3 ∧ y4 = od x4 ∧ y5 = od x5) ∧ e = rolE T p y3 y4 y5) (seqI_ev (Ev.v rfl)) ⟨ds, ([], []), none, none, none, hT.symm, rfl, by show 0 + 0 + _ ≤ _; omega, ⟨none, none, none, rfl, rfl, rfl⟩, rfl⟩ (fun _ _ _ => rfl) ?_ ?_
  · rintro x r e ⟨q, p, y3, y4, y5, hr, hq, hz, ⟨x3, x4, x5, rfl, rfl, rfl⟩, rfl⟩
    cases q with
    | nil => cases hr
    | cons d q =>
      obtain ⟨rfl, rfl⟩ : x = d.D ∧ r = q.map Dd.D := by injection hr with h1 h2; exact ⟨h1, h2⟩
      refine ⟨rolE T p (some (.d d.D)) (od x4) (od x5), by cases x3 <;> cases x4 <;> cases x5 <;> simp! [rolE, od], ?_⟩
      refine FP.st (e := rolE T p (some (.d d.D)) (some (.d (.int (d.made : Nat)))) (od x5)) (by rw [ev_mAsg, made_in d rfl]; cases x4 <;> cases x5 <;> simp! [rolE, od]) ?_
      have ll : d.ns.length ≤ 2 := by unfold Dd.ns; split <;> simp
      have hD : d.D = .tuple (.str d.k.str :: d.ns.map .str) := rfl
      have lenE : ∀ {env : Env} (te : List A), env[3]? = some (some (.d d.D)) → mCB (one lenA) (mCons (mVar 3) mNil) env te = .ok (.d (.int ((d.ns.length + 1 : Nat) : Int))) env := fun {env} te h => by
        rw [hD] at h
        have v := Ev.v h
        show Rs.bind (mCons (mVar 3) mNil env te) _ = _
        rw [Evs.cons v Evs.nil, zq00]
        simp!
      have hm : mRng2 (mC (.int 1)) (mCB (one lenA) (mCons (mVar 3) mNil)) (rolE T p (some (.d d.D)) (some (.d (.int (d.made : Nat)))) (od x5)) [.d (.tuple T)] = .ok ([], fun _ => some (intsD ((1 : Nat) : Int) d.ns.length)) (rolE T p (some (.d d.D)) (some (.d (.int (d.made : Nat)))) (od x5)) := by
        refine rng2_nat (i := 1) (by omega) rfl (fun te => ?_)
        have h := lenE (env := rolE T p (some (.d d.D)) (some (.d (.int (d.made : Nat)))) (od x5)) te rfl
        rw [Nat.add_comm] at h
        exact h
      refine fp_for (as := []) (xs := intsD ((1 : Nat) : Int) d.ns.length) (fun r e => ∃ (k : Nat) (suf : List Str) (p' : List Str × List Str) (x5 : Option Dt), d.ns.drop (k - 1) = suf ∧ 1 ≤ k ∧ r = intsD ((k : Nat) : Int) suf.length ∧ rlGo d.made k suf p' = rlGo d.made 1 d.ns p ∧ rlZ p' + suf.length ≤ rlZ p + d.ns.length ∧ e = rolE T p' (some (.d d.D)) (some (.d (.int (d.made : Nat)))) (od x5)) hm ⟨1, d.ns, p, x5, rfl, Nat.le_refl _, rfl, rfl, Nat.le_refl _, rfl⟩ (fun _ _ _ => rfl) ?_ ?_
      · rintro x r e ⟨k, suf, p', x5, hsuf, hk, hr, hg, hz', rfl⟩
        cases suf with
        | nil => cases hr
        | cons n suf =>
          rw [intsD_cons] at hr
          obtain ⟨rfl, rfl⟩ : x = .int (k : Nat) ∧ r = intsD ((k + 1 : Nat) : Int) suf.length := by injection hr with h1 h2; exact ⟨h1, h2⟩
          simp only [List.length_cons] at hz hz'
          have at1 : atI (PyData.str d.k.str :: d.ns.map .str) (k : Int) = some (.str n) := by
            refine atI_nat ?_
            obtain ⟨j, rfl⟩ : ∃ j, k = j + 1 := ⟨k - 1, by omega⟩
            rw [List.getElem?_cons_succ, List.getElem?_map]
            have : d.ns[j]? = some n := by
              have h := congrArg (fun l => l[0]?) hsuf
              simpa using h
            rw [this]
            rfl
          refine ⟨rolE T p' (some (.d d.D)) (some (.d (.int (d.made : Nat)))) (some (.d (.int (k : Nat)))), by cases x5 <;> simp! [rolE, od], ?_⟩
          have st := role_step (T := T) (X := .str d.k.str :: d.ns.map .str) (p := p') (M := d.made) (j := k) (n := n) at1 (by omega)
          refine FP.mono_eq st ?_
          have hl' := rlPut_len (decide (k = d.made)) n p'
          refine ⟨k + 1, suf, _, some (.int (k : Nat)), ?_, by omega, rfl, hg, by omega, rfl⟩
          obtain ⟨j, rfl⟩ : ∃ j, k = j + 1 := ⟨k - 1, by omega⟩
          have h := congrArg List.tail hsuf
          simp only [List.tail_drop, List.tail_cons] at h
          exact h
      · rintro e ⟨k, suf, p', x5, hsuf, hk, hr, hg, hz', rfl⟩
        cases suf with
        | cons n suf => rw [intsD_cons] at hr; cases hr
        | nil =>
          have hg : p' = rlGo d.made 1 d.ns p := hg
          simp only [List.length_cons, List.length_nil] at hz hz'
          exact ⟨q, p', some (.d d.D), some (.d (.int (d.made : Nat))), od x5, rfl, by rw [hg]; exact hq, by omega, ⟨some d.D, some (.int (d.made : Nat)), x5, rfl, rfl, rfl⟩, rfl⟩
  · rintro e ⟨q, p, y3, y4, y5, hr, hq, hz, ⟨x3, x4, x5, rfl, rfl, rfl⟩, rfl⟩
    cases q with
    | cons d q => cases hr
    | nil =>
      have hq : p = rlF ds ([], []) := hq
      rw [← hq]
      unfold rlZ at hz
      simp only [List.length_nil] at hz
      have s1 : p.1.length < 64 := by omega
      have s2 : p.2.length < 64 := by omega
      have s3 : 2 ≤ sizeLine := big (by decide)
      have z1 := strsD_map p.1
      have z2 := strsD_map p.2
      refine FP.re (a := .d (.tuple [.tuple ((srtS p.1).map .str), .tuple ((srtS p.2).map .str)])) (e := rolE T p (od x3) (od x4) (od x5)) (by simp! [rolE, sortA, z1, z2, s1, s2, s3]) ⟨_, rfl, rfl, rfl⟩
end Tw

namespace Tw
open PySem PySem.Spec PyProof.Rows L2
def rsE (m g c : Int) (O W N : List Dt) (n : Int) (T : List Dt) (y6 y7 y8 y9 : Option A) : Env := [some (.io (Dkv g m c)), some (.d (.list O)), some (.d (.list W)), some (.d (.int n)), some (.d (.tuple T)), some (.own (.l N)), y6, y7, y8, y9, none]
theorem picks3 (m g c : Int) (O W : List Dt) (S : List Str) (h0 : S ≠ []) (h1 : S.length ≤ 100000) (n : Int) (T : List Dt) (x6 x7 x8 x9 : Option Dt) :
    ∃ (zs : List Str) (g' c' : Int), (∀ z ∈ zs, z ∈ S) ∧ zs.length = 3 ∧ mD (mLc .d (mRng1 (mC (.int 3))) (gN 10) mYes (mD (mCall (noXf f_pickL) [true, false] (mCons (mVar 0) (mCons (mVar 5) mNil)))) [10]) (rsE m g c O W (S.map .str) n T (od x6) (od x7) (od x8) (od x9)) [.rf 0 none] = .ok (.d (.list (zs.map .str))) (rsE m g' c' O W (S.map .str) n T (od x6) (od x7) (od x8) (od x9)) := by
  have pk := fun g c => pick_str g m c S h0 h1
  generalize f_pickL = F at pk ⊢
  generalize S.map PyData.str = L at pk ⊢
  obtain ⟨ys, e', h1, ⟨g5, c5, zs, hz1, hz2, hz3, rfl⟩⟩ := lc_ok (kd := .d) (mi := mRng1 (mC (.int 3))) (g := gN 10) (tt := mYes) (el := mD (mCall (noXf F) [true, false] (mCons (mVar 0) (mCons (mVar 5) mNil)))) (vs := [10])
    (env := rsE m g c O W L n T (od x6) (od x7) (od x8) (od x9)) (te := [.rf 0 none])
    (fun r acc e => ∃ (g c : Int) (zs : List Str), acc = zs.map .str ∧ (∀ z ∈ zs, z ∈ S) ∧ acc.length + r.length = 3 ∧ e = rsE m g c O W L n T (od x6) (od x7) (od x8) (od x9))
    (rng1_nat (n := 3) (by decide) rfl) (by simp! [rsE]) ⟨g, c, [], rfl, (fun z h => nomatch h), rfl, by simp! [rsE]⟩ (fun _ _ _ _ => rfl) (by
      rintro x r acc e ⟨g, c, zs, rfl, hz2, hz3, rfl⟩
      obtain ⟨z, hz, g', c', p⟩ := pk g c
      refine ⟨(rsE m g c O W L n T (od x6) (od x7) (od x8) (od x9)).set 10 (some (.d x)), by simp! [rsE], true, _, rfl, fun _ => ⟨.str z, (rsE m g' c' O W L n T (od x6) (od x7) (od x8) (od x9)).set 10 (some (.d x)), by simp! [rsE, p], ?_, by simp! [rsE], g', c', zs ++ [z], by simp, ?_, ?_, by simp! [rsE]⟩, fun h => nomatch h⟩
      · refine big' ?_
        simp at hz3
        simp
        omega
      · intro y hy
        rcases List.mem_append.mp hy with hy | hy
        · exact hz2 y hy
        · rw [List.mem_singleton.mp hy]
          exact hz
      · simp at hz3 ⊢
        omega)
  refine ⟨zs, g5, c5, hz2, by rw [hz1] at hz3; simpa using hz3, ?_⟩
  rw [← hz1]
  generalize mLc _ _ _ _ _ _ = ML at h1 ⊢
  simp! [h1]
def Wk.wp (k : Wk) : Bool := match k with
  | .wrap => true
  | .put => true
  | _ => false
theorem wp_in (k : Wk) : inD true (.str k.str) (.tuple [.str "wrap", .str "put"]) = some (.bool (!k.wp)) := by
  have h := inD_tup true k.str ["wrap", "put"]
  have e : decide (k.str ∈ (["wrap", "put"] : List Str)) = k.wp := by cases k <;> decide +kernel
  rw [e] at h
  exact h
/-- a deed may be taken for one that makes a node -/
theorem rs_mid {R : A → Env → Prop} (m g c : Int) (O W : List Str) (LO LN : List Dt) (hW : W.length ≤ 1000) (n : Int) (T : List Dt) (x6 x8 x9 : Option Dt) (d : Dd) (ha : d.a ∈ O ++ W) (hb : d.b ∈ O ++ W) :
    FP (fun e => ∃ (d : Dd) (g c : Int) (x8 : Option Dt), d.a ∈ O ++ W ∧ d.b ∈ O ++ W ∧ e = rsE m g c LO (W.map .str) LN n T (od x6) (od (some d.D)) (od x8) (od x9)) R
    (mIfS (mAnd (mTst (mOp (fl2 (inD true)) (mOp ixA (mVar 7) (mC (.int 0))) (mTup (mCons (mC (.str "wrap")) (mCons (mC (.str "put")) mNil))))) (mAnd (mTst (mOp (fl2 eqD) (mCall (noXf f_drawL) [true, false] (mCons (mVar 0) (mCons (mC (.int 6)) mNil))) (mC (.int 0)))) (mTst (mOp (fl2 neD) (mVar 2) (mLst mNil))))) (mSeq (mAsg (mCall (noXf f_pickL) [true, false] (mCons (mVar 0) (mCons (mVar 2) mNil))) (gN 8))
    (mAsg (mCall (noXf f_pickL) [true, false] (mCons (mVar 0) (mCons (mD (mLst (mCons (mTup (mCons (mC (.str "wrap")) (mCons (mD (mOp ixA (mVar 7) (mC (.int 1)))) (mCons (mD (mVar 8)) mNil)))) (mCons (mTup (mCons (mC (.str "put")) (mCons (mD (mVar 8)) (mCons (mD (mOp ixA (mVar 7) (mC (.int 1)))) mNil)))) mNil)))) mNil))) (gN 7))) mNext
     (rsE m g c LO (W.map .str) LN n T (od x6) (od (some d.D)) (od x8) (od x9)) []) := by
  have s3 : 3 ≤ sizeLine := big (by decide)
  have s2 : 2 ≤ sizeLine := big (by decide)
  have t1 := wp_in d.k
  have hD : d.D = .tuple (.str d.k.str :: d.ns.map .str) := rfl
  have a0 : atI (.str d.k.str :: d.ns.map PyData.str) 0 = some (.str d.k.str) := atI_0 _ _
  have a1 := d.at1
  obtain ⟨r, g1, c1, q1, r0, r1⟩ := draw_ok g m c 6 (by decide) (by decide)
  cases hw : d.k.wp with
  | true =>
    rw [hw] at t1
    refine FP.ifF (e := rsE m g c LO (W.map .str) LN n T (od x6) (od (some d.D)) (od x8) (od x9)) ?_ (.nx ⟨d, g, c, x8, ha, hb, rfl⟩)
    generalize f_drawL = F at q1 ⊢
    rw [hD]
    simp! [rsE, od_some, a0, t1, s2]
  | false =>
    rw [hw] at t1
    by_cases hr : r = 0 ∧ W ≠ []
    · obtain ⟨rfl, hne⟩ := hr
      have e0 : neD (.list (W.map .str)) (.list []) = some (.bool true) := by
        rw [neD_nil]
        cases W with
        | nil => exact absurd rfl hne
        | cons _ _ => rfl
      obtain ⟨z, hz, g2, c2, q2⟩ := pick_str g1 m c1 W hne (by omega)
      obtain ⟨x, hx, g3, c3, q3⟩ := pick_ok g2 m c2 [.tuple [.str "wrap", .str d.a, .str z], .tuple [.str "put", .str z, .str d.a]] (by simp) (by simp) .list (.inl rfl)
      have hz' : z ∈ O ++ W := List.mem_append_right _ hz
      obtain ⟨d', rfl, ha', hb'⟩ : ∃ d' : Dd, x = d'.D ∧ d'.a ∈ O ++ W ∧ d'.b ∈ O ++ W := by
        simp only [List.mem_cons, List.not_mem_nil, or_false] at hx
        rcases hx with rfl | rfl
        · exact ⟨⟨.wrap, d.a, z⟩, rfl, ha, hz'⟩
        · exact ⟨⟨.put, z, d.a⟩, rfl, hz', ha⟩
      generalize f_drawL = F at q1 ⊢
      generalize f_pickL = F2 at q2 q3 ⊢
      generalize W.map PyData.str = LW at e0 q2 ⊢
      rw [hD]
      refine FP.ifT (e := rsE m g1 c1 LO LW LN n T (od x6) (od (some d.D)) (od x8) (od x9)) (by rw [hD]; simp! [rsE, od_some, a0, t1, s2, q1, e0, eqD_int]) ?_
      refine FP.st (e := rsE m g2 c2 LO LW LN n T (od x6) (od (some d.D)) (od (some (.str z))) (od x9)) (by rw [hD]; simp! [rsE, od_some, q2]) ?_
      refine FP.mono_eq (e := rsE m g3 c3 LO LW LN n T (od x6) (od (some d'.D)) (od (some (.str z))) (od x9)) (by rw [hD]; simp! [rsE, od_some, q3, a1, s2, s3]) ?_
      exact ⟨d', g3, c3, some (.str z), ha', hb', rfl⟩
    · refine FP.ifF (e := rsE m g1 c1 LO (W.map .str) LN n T (od x6) (od (some d.D)) (od x8) (od x9)) ?_ (.nx ⟨d, g1, c1, x8, ha, hb, rfl⟩)
      generalize f_drawL = F at q1 ⊢
      rw [hD]
      by_cases hr0 : r = 0
      · subst hr0
        have hW0 : W = [] := by
          cases W with
          | nil => rfl
          | cons x y => exact absurd ⟨rfl, by simp⟩ hr
        have e0 : neD (.list []) (.list []) = some (.bool false) := neD_nil []
        subst hW0
        simp! [rsE, od_some, a0, t1, s2, q1, e0, eqD_int]
      · simp! [rsE, od_some, a0, t1, s2, q1, eqD_int, hr0]
theorem right_script_ok (g m c : Int) (O W : List Str) (hne : O ++ W ≠ []) (hl : (O ++ W).length ≤ 1000) (n : Nat) (hn : n ≤ 20) : ∃ (ds : List Dd) (g' c' : Int), ds.length ≤ n ∧ (∀ d ∈ ds, d.a ∈ O ++ W ∧ d.b ∈ O ++ W) ∧ (rlF ds ([], [])).1.length ≤ 4 ∧ (rlF ds ([], [])).2.length ≤ 3 ∧
    f_right_scriptL [.io (Dkv g m c), .d (.list (O.map .str)), .d (.list (W.map .str)), .d (.int n)] = .ok (.d (.tuple (ds.map Dd.D))) [.io (Dkv g' m c'), .d (.list (O.map .str)), .d (.list (W.map .str)), .d (.int n)] := by
  suffices h : DOk (fun r ios => ∃ (ds : List Dd) (g' c' : Int), ds.length ≤ n ∧ (∀ d ∈ ds, d.a ∈ O ++ W ∧ d.b ∈ O ++ W) ∧ (rlF ds ([], [])).1.length ≤ 4 ∧ (rlF ds ([], [])).2.length ≤ 3 ∧ r = .d (.tuple (ds.map Dd.D)) ∧ ios = [.io (Dkv g' m c'), .d (.list (O.map .str)), .d (.list (W.map .str)), .d (.int n)]) (f_right_scriptL [.io (Dkv g m c), .d (.list (O.map .str)), .d (.list (W.map .str)), .d (.int n)]) by
    obtain ⟨r, ios, e, ds, g', c', h1, h2, h3, h4, rfl, rfl⟩ := h.ex
    exact ⟨ds, g', c', h1, h2, h3, h4, e⟩
  have lW : W.length ≤ 1000 := by rw [List.length_append] at hl; omega
  have sz : O.length + W.length ≤ sizeLine := big (by rw [List.length_append] at hl; omega)
  unfold f_right_scriptL
  refine run_ok ?_
  unfold m_right_scriptL
  have mp : O.map PyData.str ++ W.map PyData.str = (O ++ W).map .str := List.map_append.symm
  refine FP.st (e := [some (.io (Dkv g m c)), some (.d (.list (O.map .str))), some (.d (.list (W.map .str))), some (.d (.int n)), some (.d (.tuple [])), none, none, none, none, none, none]) (by simp!) ?_
  refine FP.st (e := rsE m g c (O.map .str) (W.map .str) ((O ++ W).map .str) n [] none none none none) (by simp! [rsE, sz]) ?_
  obtain ⟨r0, g0, c0, q0, r00, r01⟩ := draw_ok g m c (n + 1) (by omega) (by omega)
  obtain ⟨k, rfl⟩ : ∃ k : Nat, r0 = k := ⟨r0.toNat, by omega⟩
  refine FP.sq ?_
  have hm : mRng1 (mCall (noXf f_drawL) [true, false] (mCons (mVar 0) (mCons (mD (mOp addA (mVar 3) (mC (.int 1)))) mNil))) (rsE m g c (O.map .str) (W.map .str) ((O ++ W).map .str) n [] none none none none) [] = .ok ([], fun _ => some (intsD 0 k)) (rsE m g0 c0 (O.map .str) (W.map .str) ((O ++ W).map .str) n [] none none none none) := by
    refine rng1_nat (by omega) ?_
    generalize f_drawL = F at q0 ⊢
    simp! [rsE, q0]
  refine fp_for (as := []) (xs := intsD 0 k) (fun r e => ∃ (ds : List Dd) (g c : Int) (x6 x7 x8 x9 : Option Dt), ds.length + r.length ≤ n ∧ (∀ d ∈ ds, d.a ∈ O ++ W ∧ d.b ∈ O ++ W) ∧ (rlF ds ([], [])).1.length ≤ 4 ∧ (rlF ds ([], [])).2.length ≤ 3 ∧ e = rsE m g c (O.map .str) (W.map .str) ((O ++ W).map .str) n (ds.map Dd.D) (od x6) (od x7) (od x8) (od x9)) hm ⟨[], g0, c0, none, none, none, none, by rw [intsD_len]; simp; omega, (fun d h => nomatch h), by decide, by decide, rfl⟩ (fun _ _ _ => rfl) ?_ ?_
  · rintro x r e ⟨ds, g, c, x6, x7, x8, x9, hl1, hd, h1, h2, rfl⟩
    rw [List.length_cons] at hl1
    refine ⟨rsE m g c (O.map .str) (W.map .str) ((O ++ W).map .str) n (ds.map Dd.D) (od (some x)) (od x7) (od x8) (od x9), by simp! [rsE, od_some], ?_⟩
    obtain ⟨zs, g1, c1, hz1, hz2, qz⟩ := picks3 m g c (O.map .str) (W.map .str) (O ++ W) hne (by omega) n (ds.map Dd.D) (some x) x7 x8 x9
    obtain ⟨d, g2, c2, da, db, qd⟩ := some_deed_ok g1 m c1 zs (by intro h; rw [h] at hz2; cases hz2) (by omega)
    have st1 : mAsg (mCall (noXf f_some_deedL_v1) [true, false] (mCons (mVar 0) (mCons (mD (mLc .d (mRng1 (mC (.int 3))) (gN 10) mYes (mD (mCall (noXf f_pickL) [true, false] (mCons (mVar 0) (mCons (mVar 5) mNil)))) [10])) mNil))) (gN 7) (rsE m g c (O.map .str) (W.map .str) ((O ++ W).map .str) n (ds.map Dd.D) (od (some x)) (od x7) (od x8) (od x9)) [] = .nx (rsE m g2 c2 (O.map .str) (W.map .str) ((O ++ W).map .str) n (ds.map Dd.D) (od (some x)) (od (some d.D)) (od x8) (od x9)) := by
      generalize mD (mLc _ _ _ _ _ _) = ML at qz ⊢
      generalize f_some_deedL_v1 = F at qd ⊢
      generalize (O ++ W).map PyData.str = LN at qz ⊢
      generalize O.map PyData.str = LO at qz ⊢
      generalize W.map PyData.str = LW at qz ⊢
      generalize ds.map Dd.D = T at qz ⊢
      generalize zs.map PyData.str = Z at qz qd
      unfold rsE at qz
      rw [od_some] at qz
      simp! [rsE, od_some, qz, qd]
    refine FP.st st1 ?_
    refine FP.sq ?_
    refine fp_conseq _ (rs_mid m g2 c2 O W _ _ lW n _ (some x) x8 x9 d (hz1 _ da) (hz1 _ db)) ?_
    rintro e ⟨d, g3, c3, x8, ha, hb, rfl⟩
    have q := roles_fn (ds ++ [d]) (by rw [List.length_append, List.length_singleton]; omega)
    have hT : (ds ++ [d]).map Dd.D = ds.map Dd.D ++ [d.D] := by rw [List.map_append]; rfl
    have l1 : (srtS (rlF (ds ++ [d]) ([], [])).1).length = (rlF (ds ++ [d]) ([], [])).1.length := srtS_len _
    have l2 : (srtS (rlF (ds ++ [d]) ([], [])).2).length = (rlF (ds ++ [d]) ([], [])).2.length := srtS_len _
    rw [hT] at q
    have lT : (ds.map Dd.D).length + 1 ≤ sizeLine := big (by rw [List.length_map]; omega)
    have s1 : 1 ≤ sizeLine := big (by decide)
    have eT : ∀ {env : Env} {T : List Dt} {y : Dt}, T.length + 1 ≤ sizeLine → env[4]? = some (some (.d (.tuple T))) → env[7]? = some (some (.d y)) → Ev (mOp addA (mVar 4) (mTup (mCons (mD (mVar 7)) mNil))) env (.tuple (T ++ [y])) := fun {env T y} hl h4 h7 te => by
      have e1 := Ev.v h4
      have e2 := Ev.tup (Evs.cons (Ev.d (Ev.v h7)) Evs.nil) (by simp)
      show Rs.bind (mVar 4 env te) _ = _
      rw [e1, zq00]
      show Rs.bind (mTup _ env _) _ = _
      rw [e2, zq00]
      unfold addA
      simp! [hl]
    generalize hT0 : ds.map Dd.D = T at q hT lT ⊢
    generalize hp : rlF (ds ++ [d]) ([], []) = p at q l1 l2
    generalize hP1 : srtS p.1 = P1 at q l1
    generalize hP2 : srtS p.2 = P2 at q l2
    have c9 : ∀ te, mCall (noXf f_rolesL) [false] (mCons (mD (mOp addA (mVar 4) (mTup (mCons (mD (mVar 7)) mNil)))) mNil) (rsE m g3 c3 (O.map .str) (W.map .str) ((O ++ W).map .str) n T (od (some x)) (od (some d.D)) (od x8) (od x9)) te = .ok (.d (.tuple [.tuple (P1.map .str), .tuple (P2.map .str)])) _ := fun te => Ev.call (Evs.cons (Ev.d (eT lT rfl rfl)) Evs.nil) rfl q te
    generalize mCall (noXf f_rolesL) _ _ = MC at c9 ⊢
    generalize (O ++ W).map PyData.str = LN at c9 ⊢
    generalize O.map PyData.str = LO at c9 ⊢
    generalize W.map PyData.str = LW at c9 ⊢
    refine FP.st (e := rsE m g3 c3 LO LW LN n T (od (some x)) (od (some d.D)) (od x8) (od (some (.tuple [.tuple (P1.map .str), .tuple (P2.map .str)])))) (by rw [ev_mAsg, c9]; simp! [rsE, od_some]) ?_
    have a0 : ∀ u v : Dt, atI [u, v] 0 = some u := fun _ _ => rfl
    have a1 : ∀ u v : Dt, atI [u, v] 1 = some v := fun _ _ => rfl
    have t : mAnd (mTst (mOp (fl2 ltD) (mCB (one lenA) (mCons (mOp ixA (mVar 9) (mC (.int 0))) mNil)) (mC (.int 5)))) (mTst (mOp (fl2 ltD) (mCB (one lenA) (mCons (mOp ixA (mVar 9) (mC (.int 1))) mNil)) (mC (.int 4)))) (rsE m g3 c3 LO LW LN n T (od (some x)) (od (some d.D)) (od x8) (od (some (.tuple [.tuple (P1.map .str), .tuple (P2.map .str)])))) [] = .ok (decide (P1.length < 5) && decide (P2.length < 4)) (rsE m g3 c3 LO LW LN n T (od (some x)) (od (some d.D)) (od x8) (od (some (.tuple [.tuple (P1.map .str), .tuple (P2.map .str)])))) := by
      have ln : ∀ {i : Int} {L : List Dt} {env : Env} (te : List A), Ev (mOp ixA (mVar 9) (mC (.int i))) env (.tuple L) → mCB (one lenA) (mCons (mOp ixA (mVar 9) (mC (.int i))) mNil) env te = .ok (.d (.int (L.length : Nat))) env := fun {i L env} te h => by
        show Rs.bind (mCons _ mNil env te) _ = _
        rw [Evs.cons h Evs.nil, zq00]
        simp!
      refine and_ev (Ev.tst (Ev.eq (g := ltD) (x := .int (P1.length : Nat)) (y := .int (5 : Nat)) (fun te => ?_) Ev.c (ltD_nat _ _)) []) (fun _ => Ev.tst (Ev.eq (g := ltD) (x := .int (P2.length : Nat)) (y := .int (4 : Nat)) (fun te => ?_) Ev.c (ltD_nat _ _)) [])
      · have h := ln (i := 0) te (Ev.ix (Ev.v (env := rsE m g3 c3 LO LW LN n T (od (some x)) (od (some d.D)) (od x8) (od (some (.tuple [.tuple (P1.map .str), .tuple (P2.map .str)])))) (i := 9) rfl) Ev.c (a0 _ _))
        rw [List.length_map] at h
        exact h
      · have h := ln (i := 1) te (Ev.ix (Ev.v (env := rsE m g3 c3 LO LW LN n T (od (some x)) (od (some d.D)) (od x8) (od (some (.tuple [.tuple (P1.map .str), .tuple (P2.map .str)])))) (i := 9) rfl) Ev.c (a1 _ _))
        rw [List.length_map] at h
        exact h
    by_cases hc : P1.length < 5 ∧ P2.length < 4
    · rw [decide_eq_true hc.1, decide_eq_true hc.2] at t
      refine FP.ifT t ?_
      have e4 := fun te => eT (env := rsE m g3 c3 LO LW LN n T (od (some x)) (od (some d.D)) (od x8) (od (some (.tuple [.tuple (P1.map .str), .tuple (P2.map .str)])))) lT rfl rfl te
      generalize mOp addA _ _ = MA at e4 ⊢
      refine FP.mono_eq (e := rsE m g3 c3 LO LW LN n (T ++ [d.D]) (od (some x)) (od (some d.D)) (od x8) (od (some (.tuple [.tuple (P1.map .str), .tuple (P2.map .str)])))) (by rw [ev_mAsg, e4]; simp! [rsE, od_some]) ?_
      refine ⟨ds ++ [d], g3, c3, some x, some d.D, x8, _, ?_, ?_, ?_, ?_, by rw [hT]⟩
      · rw [List.length_append, List.length_singleton]
        omega
      · intro d' hd'
        rcases List.mem_append.mp hd' with h | h
        · exact hd d' h
        · rw [List.mem_singleton.mp h]
          exact ⟨ha, hb⟩
      · rw [hp]; omega
      · rw [hp]; omega
    · have e : (decide (P1.length < 5) && decide (P2.length < 4)) = false := by
        rw [Bool.and_eq_false_iff, decide_eq_false_iff_not, decide_eq_false_iff_not]
        omega
      rw [e] at t
      refine FP.ifF t (.nx ?_)
      exact ⟨ds, g3, c3, some x, some d.D, x8, _, by omega, hd, h1, h2, by rw [hT0]⟩
  · rintro e ⟨ds, g, c, x6, x7, x8, x9, hl1, hd, h1, h2, rfl⟩
    refine FP.re (a := .d (.tuple (ds.map Dd.D))) (e := rsE m g c (O.map .str) (W.map .str) ((O ++ W).map .str) n (ds.map Dd.D) (od x6) (od x7) (od x8) (od x9)) (by simp! [rsE]) ⟨_, rfl, ds, g, c, by simpa using hl1, hd, h1, h2, rfl, rfl⟩
end Tw

namespace Tw
open PySem PySem.Spec PyProof.Rows L2
/-! ### repr of woods -/
end Tw

namespace Tw
open PySem PySem.Spec PyProof.Rows L2
/-! ### scripts tried, whole and deed by deed -/
end Tw

namespace Tw
open PySem PySem.Spec PyProof.Rows L2
/-! ### scripts cut in two -/
theorem tup_strs : ∀ l : List Str, tupAll (l.map .str) = true
  | [] => rfl
  | x :: l => by
    show (true && tupAll (l.map .str)) = true
    rw [tup_strs l]
    rfl
theorem tup_deeds : ∀ ds : List Dd, tupAll (ds.map Dd.D) = true
  | [] => rfl
  | d :: ds => by
    show (tupAll (.str d.k.str :: d.ns.map .str) && tupAll (ds.map Dd.D)) = true
    rw [tup_deeds ds]
    have : tupAll (.str d.k.str :: d.ns.map .str) = (true && tupAll (d.ns.map .str)) := rfl
    rw [this, tup_strs]
    rfl
end Tw

namespace Tw
open PySem PySem.Spec PyProof.Rows L2
/-! ### other names -/
def rnI (f : Str → Str) : RI → RI
  | .e p => .e (p.1, f p.2)
  | .g k => .g k
def rnR (f : Str → Str) (r : List RI) : List RI := r.map (rnI f)
def Dd.rn (f : Str → Str) (d : Dd) : Dd := ⟨d.k, f d.a, f d.b⟩
end Tw

namespace Tw
open PySem PySem.Spec PyProof.Rows L2
def Wd.rn (f : Str → Str) : Wd → Wd
  | .nil => .nil
  | .cons n i r => .cons (f n) (i.rn f) (r.rn f)
def rnT (f : Str → Str) (p : Tok) : Tok := (p.1, f p.2)
/-! ### a one to one exchange of all texts -/
/-! ### gaps and children -/
theorem Ev.dg {env : Env} {i : Nat} {mb : ME} {kvs : List (Dt × Dt)} {z : Str} {x : Dt} (hd : env[i]? = some (some (.d (.dict kvs)))) (hk : Ev mb env (.str z)) (h : lkDD kvs (.inr z) = some x) : Ev (mOp dgA (mVar i) mb) env x := fun te => by
  show Rs.bind (mVar i env te) _ = _
  rw [Ev.v hd, zq00]
  show Rs.bind (mb env _) _ = _
  rw [hk, zq00]
  show (match dgO env (.d (.dict kvs)) (.inr z) with | some (.dt x) => Rs.ok (A.d x) env | some .li => (match A.d (.dict kvs) with | .rf i none => .ok (.rf i (some (.inr z))) env | _ => .bad) | _ => .bad) = _
  have e : dgO env (.d (.dict kvs)) (.inr z) = some (match lkDD kvs (.inr z) with | some x => .dt x | none => .no) := rfl
  rw [e, h]
theorem Ev.dgO {env : Env} {i : Nat} {mb : ME} {kvs : List (Key × Dt)} {z : Str} {x : Dt} (hd : env[i]? = some (some (.own (.dc kvs)))) (hk : Ev mb env (.str z)) (h : lkD kvs (.inr z) = some x) : Ev (mOp dgA (mVar i) mb) env x := fun te => by
  have hv : mVar i env te = .ok (.rf i none) env := by unfold mVar; rw [hd]; rfl
  show Rs.bind (mVar i env te) _ = _
  rw [hv, zq00]
  show Rs.bind (mb env _) _ = _
  rw [hk, zq00]
  have eo : owAt env i = some (.dc kvs) := by unfold owAt; rw [hd]
  show (match Tw.dgO env (.rf i none) (.inr z) with | some (.dt x) => Rs.ok (A.d x) env | some .li => .ok (.rf i (some (.inr z))) env | _ => .bad) = _
  have e : Tw.dgO env (.rf i none) (.inr z) = some (match lkD kvs (.inr z) with | some x => .dt x | none => .no) := by
    unfold Tw.dgO
    simp only [eo]
    all_goals (cases lkD kvs (.inr z) <;> rfl)
  rw [e, h]
end Tw

namespace Tw
open PySem PySem.Spec PyProof.Rows L2
theorem Ev.andE {ma mb : ME} {env : Env} {a b : Bool} (ha : Ev ma env (.bool a)) (hb : Ev mb env (.bool b)) : Ev (mAndE ma mb) env (.bool (a && b)) := fun te => by
  show Rs.bind (mTst ma env te) _ = _
  rw [ha.tst, zq00]
  cases a with
  | true => rw [if_pos rfl]; exact hb te
  | false => rw [if_neg Bool.false_ne_true]; rfl
theorem Ev.orE {ma mb : ME} {env : Env} {a b : Bool} (ha : Ev ma env (.bool a)) (hb : Ev mb env (.bool b)) : Ev (mOrE ma mb) env (.bool (a || b)) := fun te => by
  show Rs.bind (mTst ma env te) _ = _
  rw [ha.tst, zq00]
  cases a with
  | true => rw [if_pos rfl]; rfl
  | false => rw [if_neg Bool.false_ne_true]; exact hb te
theorem makes_fn (d : Dd) (k : Nat) (hk : 1 ≤ k) : f_makes [.d d.D, .d (.int (k : Nat))] = .ok (.d (.bool (decide (k = d.made)))) [.d d.D, .d (.int (k : Nat))] := by
  have fin : (decide (d.k = .wrap) && decide ((k : Int) = 2) || (decide (d.k = .put) && decide ((k : Int) = 1))) = decide (k = d.made) := by
    obtain ⟨kk, a, b⟩ := d
    have e2 : decide ((k : Int) = 2) = decide (k = 2) := decide_eq_decide.mpr (by omega)
    have e1 : decide ((k : Int) = 1) = decide (k = 1) := decide_eq_decide.mpr (by omega)
    have e0 : decide (k = 0) = false := decide_eq_false (by omega)
    rw [e1, e2]
    cases kk <;> first
      | exact e0.symm
      | (show (false && _ || (true && decide (k = 1))) = decide (k = 1); rfl)
      | (show (true && decide (k = 2) || (false && _)) = decide (k = 2); rw [Bool.true_and, Bool.false_and, Bool.or_false])
  refine ok_of ?_
  unfold f_makes
  refine run_ok ?_
  unfold m_makes
  have v0 : Ev (mOp ixA (mVar 0) (mC (.int 0))) [some (.d d.D), some (.d (.int (k : Nat)))] (.str d.k.str) := Ev.ix (Ev.v rfl) Ev.c (atI_0 _ _)
  refine FP.re (Ev.orE (Ev.andE (Ev.eq v0 (Ev.c (x := .str "wrap")) (wk_eq d.k .wrap)) (Ev.eq (Ev.v (i := 1) rfl) (Ev.c (x := .int 2)) (eqD_int _ _))) (Ev.andE (Ev.eq v0 (Ev.c (x := .str "put")) (wk_eq d.k .put)) (Ev.eq (Ev.v (i := 1) rfl) (Ev.c (x := .int 1)) (eqD_int _ _))) []) ⟨_, rfl, by rw [fin], rfl⟩
/-! ### which names are old and which are new -/
abbrev Ro := List (Str × Bool)
def roPut (b : Bool) (n : Str) (l : Ro) : Ro := if n ∈ l.map (·.1) then l else l ++ [(n, b)]
def roGo (M : Nat) : Nat → List Str → Ro → Ro
  | _, [], l => l
  | k, n :: r, l => roGo M (k + 1) r (roPut (decide (k = M)) n l)
def roF : List Dd → Ro → Ro
  | [], l => l
  | d :: ds, l => roF ds (roGo d.made 1 d.ns l)
def roK (l : Ro) : List (Key × Dt) := l.map fun p => (.inr p.1, .bool p.2)
theorem roPut_len (b : Bool) (n : Str) (l : Ro) : (roPut b n l).length ≤ l.length + 1 := by
  unfold roPut
  split
  · omega
  · rw [List.length_append]; exact Nat.le_refl _
theorem roK_in (l : Ro) (n : Str) : ((roK l).any fun kv => decide (kv.1 = .inr n)) = decide (n ∈ l.map (·.1)) := by
  rw [Bool.eq_iff_iff, List.any_eq_true, decide_eq_true_eq, List.mem_map]
  constructor
  · rintro ⟨x, hx, h⟩
    obtain ⟨p, hp, rfl⟩ := List.mem_map.mp hx
    have h := of_decide_eq_true h
    injection h with h
    exact ⟨p, hp, h⟩
  · rintro ⟨p, hp, rfl⟩
    exact ⟨_, List.mem_map_of_mem hp, decide_eq_true rfl⟩
def rosE (T : List Dt) (l : Ro) (y2 y3 y4 : Option A) : Env := [some (.d (.tuple T)), some (.own (.dc (roK l))), y2, y3, y4]
theorem setd_step {T : List Dt} {l : Ro} {d : Dt} {k : Nat} {n : Str} {b : Bool} {F : DF} (hF : F [.d d, .d (.int (k : Nat))] = .ok (.d (.bool b)) [.d d, .d (.int (k : Nat))]) (hl : l.length ≤ 1000) :
    mDrop (mSetd (mVar 1) (mVar 4) (mD (mCall (noXf F) [false, false] (mCons (mVar 2) (mCons (mVar 3) mNil))))) (rosE T l (some (.d d)) (some (.d (.int (k : Nat)))) (some (.d (.str n)))) [.d d, .d (.tuple T)] = .nx (rosE T (roPut b n l) (some (.d d)) (some (.d (.int (k : Nat)))) (some (.d (.str n)))) := by
  have hin := roK_in l n
  have sz : (roK l).length < sizeLine := big' (by unfold roK; rw [List.length_map]; omega)
  unfold roPut
  by_cases c : n ∈ l.map (·.1)
  · rw [if_pos c]
    rw [decide_eq_true c] at hin
    obtain ⟨x, hx⟩ := lkD_some _ _ hin
    simp! [mSetd, setdA, isDct, rosE, hF, sz, hx]
  · rw [if_neg c]
    rw [decide_eq_false c] at hin
    have hx := lkD_none _ _ hin
    have hp : putD (roK l) (.inr n) (.bool b) = roK (l ++ [(n, b)]) := by
      unfold putD
      rw [if_neg (by rw [hin]; exact Bool.false_ne_true)]
      unfold roK
      rw [List.map_append]
      rfl
    simp! [mSetd, setdA, isDct, rosE, hF, sz, hx, hp]
def enD (k : Nat) (xs : List Dt) : List Dt := (xs.zipIdx k).map fun q => .tuple [.int q.2, q.1]
theorem enD_cons (k : Nat) (x : Dt) (xs : List Dt) : enD k (x :: xs) = .tuple [.int (k : Nat), x] :: enD (k + 1) xs := by
  unfold enD
  rw [List.zipIdx_cons, List.map_cons]
theorem roGo_len (M : Nat) : ∀ (k : Nat) (ns : List Str) (l : Ro), (roGo M k ns l).length ≤ l.length + ns.length
  | _, [], l => Nat.le_refl _
  | k, n :: r, l => by
    have h := roGo_len M (k + 1) r (roPut (decide (k = M)) n l)
    have := roPut_len (decide (k = M)) n l
    show (roGo M (k + 1) r _).length ≤ l.length + (r.length + 1)
    omega
theorem prog_roles_fn (ds : List Dd) (hl : ds.length ≤ 30) : f_roles [.d (.tuple (ds.map Dd.D))] = .ok (.own (.dc (roK (roF ds [])))) [.d (.tuple (ds.map Dd.D))] := by
  suffices h : DOk (fun r ios => r = .own (.dc (roK (roF ds []))) ∧ ios = [.d (.tuple (ds.map Dd.D))]) (f_roles [.d (.tuple (ds.map Dd.D))]) by
    obtain ⟨a, ios, e, rfl, rfl⟩ := h.ex
    exact e
  have mk := makes_fn
  unfold f_roles
  refine run_ok ?_
  unfold m_roles
  generalize f_makes = F at mk ⊢
  generalize hT : ds.map Dd.D = T
  refine FP.st (e := rosE T [] none none none) (by simp! [rosE, roK]) ?_
  refine FP.sq ?_
  refine fp_for (as := [.d (.tuple T)]) (xs := T) (fun r e => ∃ (q : List Dd) (l : Ro) (x2 x3 x4 : Option Dt), r = q.map Dd.D ∧ roF q l = roF ds [] ∧ l.length + 2 * q.length ≤ 60 ∧ e = rosE T l (od x2) (od x3) (od x4)) (seqI_ev (Ev.v rfl)) ⟨ds, [], none, none, none, hT.symm, rfl, by show 0 + _ ≤ _; omega, rfl⟩ (fun _ _ _ => rfl) ?_ ?_
  · rintro x r e ⟨q, l, x2, x3, x4, hr, hq, hz, rfl⟩
    cases q with
    | nil => cases hr
    | cons d q =>
      obtain ⟨rfl, rfl⟩ : x = d.D ∧ r = q.map Dd.D := by injection hr with h1 h2; exact ⟨h1, h2⟩
      refine ⟨rosE T l (od (some d.D)) (od x3) (od x4), by simp! [rosE, od_some], ?_⟩
      have ll : d.ns.length ≤ 2 := by unfold Dd.ns; split <;> simp
      have hm : mEnT (mVar 2) (rosE T l (od (some d.D)) (od x3) (od x4)) [.d (.tuple T)] = .ok ([.d d.D], fun _ => some (enD 0 (.str d.k.str :: d.ns.map .str))) (rosE T l (od (some d.D)) (od x3) (od x4)) := by
        show Rs.bind (mVar 2 _ _) _ = _
        rw [Ev.v (x := d.D) rfl, zq00]
        rfl
      refine fp_for (as := [.d d.D]) (xs := enD 0 (.str d.k.str :: d.ns.map .str)) (fun r e => ∃ (k : Nat) (suf : List Str) (l' : Ro) (x3 x4 : Option Dt), (r = enD 0 (.str d.k.str :: d.ns.map .str) ∧ k = 1 ∧ suf = d.ns ∨ 1 ≤ k ∧ r = enD k (suf.map .str)) ∧ roGo d.made k suf l' = roGo d.made 1 d.ns l ∧ l'.length + suf.length ≤ l.length + d.ns.length ∧ e = rosE T l' (od (some d.D)) (od x3) (od x4)) hm ⟨1, d.ns, l, x3, x4, .inl ⟨rfl, rfl, rfl⟩, rfl, Nat.le_refl _, rfl⟩ (fun _ _ _ => rfl) ?_ ?_
      · rintro x r e ⟨k, suf, l', x3, x4, hr, hg, hz', rfl⟩
        rcases hr with ⟨hr, rfl, rfl⟩ | ⟨hk, hr⟩
        · rw [enD_cons] at hr
          obtain ⟨rfl, rfl⟩ : x = .tuple [.int (0 : Nat), .str d.k.str] ∧ r = enD 1 (d.ns.map .str) := by injection hr with h1 h2; exact ⟨h1, h2⟩
          refine ⟨rosE T l' (od (some d.D)) (od (some (.int (0 : Nat)))) (od (some (.str d.k.str))), by simp! [rosE, od_some, kdQ], ?_⟩
          have t := (Ev.eq (g := gtD) (Ev.v (env := rosE T l' (od (some d.D)) (od (some (.int (0 : Nat)))) (od (some (.str d.k.str)))) (i := 3) rfl) (Ev.c (x := .int (0 : Nat))) (gtD_nat 0 0)).tst ([.d d.D] ++ [.d (.tuple T)])
          refine FP.ifF t (.nx ?_)
          exact ⟨1, d.ns, l', some (.int (0 : Nat)), some (.str d.k.str), .inr ⟨Nat.le_refl _, rfl⟩, hg, hz', rfl⟩
        · cases suf with
          | nil => cases hr
          | cons n suf =>
            rw [List.map_cons, enD_cons] at hr
            obtain ⟨rfl, rfl⟩ : x = .tuple [.int (k : Nat), .str n] ∧ r = enD (k + 1) (suf.map .str) := by injection hr with h1 h2; exact ⟨h1, h2⟩
            simp only [List.length_cons] at hz hz'
            refine ⟨rosE T l' (od (some d.D)) (od (some (.int (k : Nat)))) (od (some (.str n))), by simp! [rosE, od_some, kdQ], ?_⟩
            have t := (Ev.eq (g := gtD) (Ev.v (env := rosE T l' (od (some d.D)) (od (some (.int (k : Nat)))) (od (some (.str n)))) (i := 3) rfl) (Ev.c (x := .int (0 : Nat))) (gtD_nat k 0)).tst ([.d d.D] ++ [.d (.tuple T)])
            rw [decide_eq_true (show 0 < k by omega)] at t
            refine FP.ifT t ?_
            refine FP.mono_eq (setd_step (mk d k hk) (by omega)) ?_
            have hl' := roPut_len (decide (k = d.made)) n l'
            exact ⟨k + 1, suf, _, some (.int (k : Nat)), some (.str n), .inr ⟨by omega, rfl⟩, hg, by omega, rfl⟩
      · rintro e ⟨k, suf, l', x3, x4, hr, hg, hz', rfl⟩
        rcases hr with ⟨hr, rfl, rfl⟩ | ⟨hk, hr⟩
        · rw [enD_cons] at hr
          cases hr
        · cases suf with
          | cons n suf => rw [List.map_cons, enD_cons] at hr; cases hr
          | nil =>
            have hg : l' = roGo d.made 1 d.ns l := hg
            simp only [List.length_cons, List.length_nil] at hz hz'
            exact ⟨q, l', some d.D, x3, x4, rfl, by rw [hg]; exact hq, by omega, rfl⟩
  · rintro e ⟨q, l, x2, x3, x4, hr, hq, hz, rfl⟩
    cases q with
    | cons d q => cases hr
    | nil =>
      have hq : l = roF ds [] := hq
      rw [← hq]
      exact FP.re (a := .rf 1 none) (e := rosE T l (od x2) (od x3) (od x4)) (by simp! [rosE]) ⟨_, rfl, rfl, rfl⟩
end Tw

namespace Tw
open PySem PySem.Spec PyProof.Rows L2
def roN (b : Bool) (l : Ro) : List Str := (l.filter fun p => p.2 == b).map (·.1)
theorem roN_cons (b : Bool) (p : Str × Bool) (l : Ro) : roN b (p :: l) = if p.2 = b then p.1 :: roN b l else roN b l := by
  unfold roN
  rw [List.filter_cons]
  by_cases h : p.2 = b
  · rw [if_pos h, if_pos (by simpa using h)]
    rfl
  · rw [if_neg h, if_neg (by simpa using h)]
theorem lc_roles {T : List Dt} {tt : MT} (b : Bool) (l : Ro) (hl : l.length ≤ 1000) (te : List A) (hte : te = [])
    (ht : ∀ (n : Str) (c : Bool) (acc : List Dt), tt [some (.d (.tuple T)), some (.d (.str n)), some (.d (.bool c))] (.own (.l acc) :: ([] ++ te)) = .ok (c == b) [some (.d (.tuple T)), some (.d (.str n)), some (.d (.bool c))]) :
    mLc kdQ (fun env _ => .ok ([], fun _ => some (itmD (roK l))) env) (gT [1, 2]) tt (mD (mVar 1)) [1, 2] [some (.d (.tuple T)), none, none] te = .ok (.own (.l ((roN b l).map .str))) [some (.d (.tuple T)), none, none] := by
  subst hte
  obtain ⟨ys, e', h1, ⟨q, hq, ho, hlq, rfl⟩⟩ := lc_ok (kd := kdQ) (mi := fun env _ => .ok ([], fun _ => some (itmD (roK l))) env) (g := gT [1, 2]) (tt := tt) (el := mD (mVar 1)) (vs := [1, 2])
    (env := [some (.d (.tuple T)), none, none]) (te := [])
    (fun r acc e => ∃ q : Ro, r = itmD (roK q) ∧ acc ++ (roN b q).map .str = (roN b l).map .str ∧ acc.length + q.length ≤ l.length ∧ e = [some (.d (.tuple T)), none, none])
    rfl (by simp!) ⟨l, rfl, rfl, by simp, by simp!⟩ (fun _ _ _ _ => rfl) (by
      rintro x r acc e ⟨q, hq, ho, hlq, rfl⟩
      cases q with
      | nil => cases hq
      | cons p q =>
        obtain ⟨n, c⟩ := p
        obtain ⟨rfl, rfl⟩ : x = .tuple [.str n, .bool c] ∧ r = itmD (roK q) := by injection hq with h1 h2; exact ⟨h1, h2⟩
        rw [List.length_cons] at hlq
        rw [roN_cons] at ho
        refine ⟨[some (.d (.tuple T)), some (.d (.str n)), some (.d (.bool c))], by simp! [kdQ], c == b, _, ht n c acc, fun h => ⟨.str n, [some (.d (.tuple T)), some (.d (.str n)), some (.d (.bool c))], by simp!, big' (by omega), by simp!, q, rfl, ?_, ?_, by simp!⟩, fun h => ⟨by simp!, q, rfl, ?_, by omega, by simp!⟩⟩
        · have e : c = b := by simpa using h
          rw [if_pos e] at ho
          rw [List.append_assoc]
          exact ho
        · rw [List.length_append, List.length_singleton]
          omega
        · have e : ¬ c = b := by simpa using h
          rw [if_neg e] at ho
          exact ho)
  cases q with
  | cons p q => cases hq
  | nil =>
    rw [h1, ← ho]
    simp [roN]
theorem roF_len : ∀ (ds : List Dd) (l : Ro), (roF ds l).length ≤ l.length + 2 * ds.length
  | [], l => by simp [roF]
  | d :: ds, l => by
    have h := roF_len ds (roGo d.made 1 d.ns l)
    have h2 := roGo_len d.made 1 d.ns l
    have ll : d.ns.length ≤ 2 := by unfold Dd.ns; split <;> simp
    show (roF ds (roGo d.made 1 d.ns l)).length ≤ _
    rw [List.length_cons]
    omega
theorem roPut_mem {b : Bool} {n : Str} {l : Ro} {p : Str × Bool} (h : p ∈ roPut b n l) : p ∈ l ∨ p.1 = n := by
  unfold roPut at h
  split at h
  · exact .inl h
  · rcases List.mem_append.mp h with h | h
    · exact .inl h
    · rw [List.mem_singleton.mp h]; exact .inr rfl
theorem roGo_mem {M : Nat} {p : Str × Bool} : ∀ {k : Nat} {ns : List Str} {l : Ro}, p ∈ roGo M k ns l → p ∈ l ∨ p.1 ∈ ns
  | _, [], l, h => .inl h
  | k, n :: r, l, h => by
    rcases roGo_mem (k := k + 1) (ns := r) h with h | h
    · rcases roPut_mem h with h | h
      · exact .inl h
      · exact .inr (by rw [h]; exact List.mem_cons_self)
    · exact .inr (List.mem_cons_of_mem _ h)
theorem Dd.ns_sub (d : Dd) : ∀ n ∈ d.ns, n = d.a ∨ n = d.b := fun n h => by
  unfold Dd.ns at h
  split at h
  · exact .inl (List.mem_singleton.mp h)
  · rcases List.mem_cons.mp h with h | h
    · exact .inl h
    · exact .inr (List.mem_singleton.mp h)
theorem roF_mem {p : Str × Bool} : ∀ {ds : List Dd} {l : Ro}, p ∈ roF ds l → p ∈ l ∨ ∃ d ∈ ds, p.1 = d.a ∨ p.1 = d.b
  | [], l, h => .inl h
  | d :: ds, l, h => by
    rcases roF_mem (ds := ds) h with h | ⟨e, he, h⟩
    · rcases roGo_mem h with h | h
      · exact .inl h
      · exact .inr ⟨d, List.mem_cons_self, d.ns_sub _ h⟩
    · exact .inr ⟨e, List.mem_cons_of_mem _ he, h⟩
theorem names_roles {tt : MT} {F : DF} (b : Bool) (ds : List Dd) (hl : ds.length ≤ 30) (hd : ∀ d ∈ ds, d.nm) (hF : F [.d (.tuple (ds.map Dd.D))] = .ok (.own (.dc (roK (roF ds [])))) [.d (.tuple (ds.map Dd.D))])
    (ht : ∀ (n : Str) (c : Bool) (acc : List Dt), tt [some (.d (.tuple (ds.map Dd.D))), some (.d (.str n)), some (.d (.bool c))] (.own (.l acc) :: ([] ++ [])) = .ok (c == b) [some (.d (.tuple (ds.map Dd.D))), some (.d (.str n)), some (.d (.bool c))]) :
    mCB (one tupA) (mCons (mCB (one sortA) (mCons (mLcI (mCall (noXf F) [false] (mCons (mVar 0) mNil)) (gT [1, 2]) tt (mD (mVar 1)) [1, 2]) mNil)) mNil) [some (.d (.tuple (ds.map Dd.D))), none, none] [] = .ok (.d (.tuple ((srtS (roN b (roF ds []))).map .str))) [some (.d (.tuple (ds.map Dd.D))), none, none] := by
  have ln := roF_len ds []
  simp only [List.length_nil] at ln
  have lc := lc_roles (T := ds.map Dd.D) b (roF ds []) (by omega) [] rfl ht
  have co := call_own (env := [some (.d (.tuple (ds.map Dd.D))), none, none]) (io := [false]) (te := []) (Evs.cons (Ev.v (i := 0) rfl) Evs.nil) rfl hF
  have fl : ((roK (roF ds [])).all fun q => flatD (kD q.1)) = true := by
    rw [List.all_eq_true]
    intro x hx
    obtain ⟨p, hp, rfl⟩ := List.mem_map.mp hx
    refine decide_eq_true (big ?_)
    rcases roF_mem hp with h | ⟨d, h, e⟩
    · cases h
    · have h1 := nm_len (hd d h).1
      have h2 := nm_len (hd d h).2
      rcases e with e | e
      · show p.1.length ≤ 100000
        rw [e]; omega
      · show p.1.length ≤ 100000
        rw [e]; omega
  have lci : mLcI (mCall (noXf F) [false] (mCons (mVar 0) mNil)) (gT [1, 2]) tt (mD (mVar 1)) [1, 2] [some (.d (.tuple (ds.map Dd.D))), none, none] [] = .ok (.own (.l ((roN b (roF ds [])).map .str))) [some (.d (.tuple (ds.map Dd.D))), none, none] := by
    unfold mLcI
    rw [co, zq00]
    dsimp only
    rw [if_pos fl, lc]
    rfl
  generalize mLcI _ _ _ _ _ = ML at lci ⊢
  have rl : (roN b (roF ds [])).length < 64 := by
    unfold roN
    rw [List.length_map]
    have := List.length_filter_le (fun p : Str × Bool => p.2 == b) (roF ds [])
    omega
  have z1 := strsD_map (roN b (roF ds []))
  simp! [lci, sortA, z1, rl]
theorem old_names_fn (ds : List Dd) (hl : ds.length ≤ 30) (hd : ∀ d ∈ ds, d.nm) : f_old_names [.d (.tuple (ds.map Dd.D))] = .ok (.d (.tuple ((srtS (roN false (roF ds []))).map .str))) [.d (.tuple (ds.map Dd.D))] := by
  refine ok_of ?_
  have q := prog_roles_fn ds hl
  unfold f_old_names
  refine run_ok ?_
  unfold m_old_names
  generalize f_roles = F at q ⊢
  refine FP.re (names_roles false ds hl hd q (fun n c acc => ?_)) ⟨_, rfl, rfl, rfl⟩
  rw [not_ev ((Ev.v (i := 2) rfl).tst _)]
  cases c <;> rfl
theorem new_names_fn (ds : List Dd) (hl : ds.length ≤ 30) (hd : ∀ d ∈ ds, d.nm) : f_new_names [.d (.tuple (ds.map Dd.D))] = .ok (.d (.tuple ((srtS (roN true (roF ds []))).map .str))) [.d (.tuple (ds.map Dd.D))] := by
  refine ok_of ?_
  have q := prog_roles_fn ds hl
  unfold f_new_names
  refine run_ok ?_
  unfold m_new_names
  generalize f_roles = F at q ⊢
  refine FP.re (names_roles true ds hl hd q (fun n c acc => ?_)) ⟨_, rfl, rfl, rfl⟩
  rw [(Ev.v (i := 2) rfl).tst _]
  cases c <;> rfl
/-! under other names -/
end Tw

namespace Tw
open PySem PySem.Spec PyProof.Rows L2
end Tw

namespace Tw
open PySem PySem.Spec PyProof.Rows L2
end Tw

namespace Tw
open PySem PySem.Spec PyProof.Rows L2
end Tw

namespace Tw
open PySem PySem.Spec PyProof.Rows L2
/-- the sign of an end -/
theorem Ev.sign {env : Env} {j : Nat} {p : Tok} (h : env[j]? = some (some (.d (tkD p)))) : Ev (mOp ixA (mVar j) (mC (.int 0))) env (.str (if p.1 = true then "+" else "-")) := fun te => by
  have a0 := tk_at0 p
  have e : (⟨#[if p.1 = true then 43 else 45]⟩ : Str) = (if p.1 = true then ("+" : Str) else ("-" : Str)) := by cases p.1 <;> rfl
  rw [← e]
  simp! only [h, a0]
end Tw

namespace Tw
open PySem PySem.Spec PyProof.Rows L2
end Tw

namespace Tw
open PySem PySem.Spec PyProof.Rows L2
/-! ### deeds taken back -/
end Tw

namespace Tw
open PySem PySem.Spec PyProof.Rows L2
end Tw

namespace Tw
open PySem PySem.Spec PyProof.Rows L2
/-! ### a wood as a dict of lists of names -/
structure Tr where
  n : Str
  i : Wd
def Wd.trs : Wd → List Tr
  | .nil => []
  | .cons n i r => ⟨n, i⟩ :: r.trs
end Tw

namespace Tw
open PySem PySem.Spec PyProof.Rows L2
/-! ### where a node stands -/
/-- what stands right ahead of a node -/
def lastT (o : Str) (L : List Str) : RI := match L.getLast? with
  | some s => .e (false, s)
  | none => .e (true, o)
end Tw

namespace Tw
open PySem PySem.Spec PyProof.Rows L2
end Tw

namespace Tw
open PySem PySem.Spec PyProof.Rows L2
def kp (k : Str) : Dt := if k = "" then .none else .str k
end Tw

namespace Tw
open PySem PySem.Spec PyProof.Rows L2
end Tw

namespace Tw
open PySem PySem.Spec PyProof.Rows L2
/-! ### names that laws about scripts draw -/
end Tw

namespace Tw
open PySem PySem.Spec PyProof.Rows L2
end Tw

namespace Tw
open PySem PySem.Spec PyProof.Rows L2
/-! ### what lies around a node -/
end Tw

namespace Tw
open PySem PySem.Spec PyProof.Rows L2
theorem Wd.bal (w : Wd) : Bal w.rows := by rw [← Wd.gw_row]; exact GW.bal _
end Tw

namespace Tw
open PySem PySem.Spec PyProof.Rows L2
/-! ### where a node stands, with what is in it and what is behind it -/
def Wd.pos (o : Str) (L : List Str) : Wd → Str → Option (Str × List Str × Wd × Wd)
  | .nil, _ => none
  | .cons n i r, a => if n = a then some (o, L, i, r) else match i.pos n [] a with
    | some x => some x
    | none => r.pos o (L ++ [n]) a
/-- all of it together, for a wood with unlike names -/
structure Pos (w : Wd) (a o : Str) (L : List Str) (i r : Wd) (A : List RI) (B : List RI) : Prop where
  eq : w.rows = A ++ .e (true, a) :: (i.rows ++ .e (false, a) :: (r.rows ++ B))
  out : ∀ b, RI.e (b, a) ∉ A ∧ RI.e (b, a) ∉ i.rows ∧ RI.e (b, a) ∉ r.rows ++ B
  hd : (A = [] ∧ o = "" ∧ L = []) ∨ ∃ A', A = A' ++ [lastT o L]
  tl : (o = "" ∧ B = []) ∨ ∃ B', B = .e (false, o) :: B'
  run : ∃ S, Tw.run [] A = some S ∧ ((o = "" ∧ S = []) ∨ ∃ S2, S = o :: S2)
end Tw

namespace Tw
open PySem PySem.Spec PyProof.Rows L2
/-! ### sayings -/
theorem Ev.len {m : ME} {env : Env} {xs : List Dt} (h : Ev m env (.tuple xs)) : Ev (mCB (one lenA) (mCons m mNil)) env (.int (xs.length : Nat)) := fun te => by
  show Rs.bind (mCons m mNil env te) _ = _
  have e : mCons m mNil env te = .ok [.d (.tuple xs)] env := by
    rw [ev_mCons, h, zq00, ek_mCons_0]
    rfl
  rw [e, zq00]
  rfl
end Tw

namespace Tw
open PySem PySem.Spec PyProof.Rows L2
end Tw

namespace Tw
open PySem PySem.Spec PyProof.Rows L2
/-! ### a wood of a tuple of names -/
def oo : Option (List Dt) → Option A
  | none => none
  | some l => some (.own (.l l))
theorem pl_od' (x : Option Dt) (e : Env) : plB (od x :: e) = plB e := by cases x <;> rfl
theorem pl_oo (x : Option (List Dt)) (e : Env) : plB (oo x :: e) = plB e := by cases x <;> rfl
theorem Asg.pl2 {m : ME} {env e : Env} {i : Nat} {a : A} {te : List A} (h : m env te = .ok a e) (hd : plB e = true) (hi : i < e.length) (ht : te.any (isRf i) = false) (ha : (∃ x, a = .d x) ∨ (∃ o, a = .own o)) : mAsg m (gN i) env te = .nx (e.set i (some a)) := by
  have g := gN_pl (te := te) hd hi ht ha
  rw [ev_mAsg, h, ev_fl_ok]
  show (match gN i a e te with | some e' => Fl.nx e' | none => .bad) = _
  rw [g]
end Tw

namespace Tw
open PySem PySem.Spec PyProof.Rows L2
/-! ### blocks that may raise -/
/-! ### sets of texts -/
/-! ### rows looked at from the left -/
def cutN (z : Str) : Str := cutS z (some 1) none
theorem tl_cutN (z : Str) : TL.tl (cutN z) = (TL.tl z).drop 1 := tl_cut_from z 1
theorem cutN_len (z : Str) : (cutN z).length ≤ z.length := by
  rw [TL.len_tl, TL.len_tl, tl_cutN, List.length_drop]
  omega
end Tw

namespace Tw
open PySem PySem.Spec PyProof.Rows L2
theorem Ev.cutV {env : Env} {j : Nat} {z : Str} (h : env[j]? = some (some (.d (.str z)))) (hl : z.length ≤ 1000) : Ev (mSl (mVar j) (mPart (mC (.int 1))) mNoPart) env (.str (cutN z)) := fun te => by
  have hz : (cutS z (some 1) none).length ≤ sizeLine := big (by have := cutN_len z; unfold cutN at this; omega)
  simp! [h, hz, cutN]
end Tw

namespace Tw
open PySem PySem.Spec PyProof.Rows L2
end Tw

namespace Tw
open PySem PySem.Spec PyProof.Rows L2
theorem Ev.f2 {ma mb : ME} {env : Env} {x y z : Dt} {g : Dt → Dt → Option Dt} (ha : Ev ma env x) (hb : Ev mb env y) (h : g x y = some z) : Ev (mOp (fl2 g) ma mb) env z := fun te => by
  rw [ev_mOp, ha, zq00, ek_mOp_0, hb, zq00, ek_mOp_1]
  simp! [h]
theorem Ev.lst {ms : MA} {env : Env} {xs : List Dt} (h : Evs ms env xs) (hl : xs.length ≤ 100000) : Ev (mD (mLst ms)) env (.list xs) := Ev.dl h hl
theorem Ev.addL {m : ME} {ms : MA} {env : Env} {xs ys : List Dt} (ha : Ev m env (.list xs)) (hb : Evs ms env ys) (h : xs.length + ys.length ≤ 100000) : Ev (mD (mOp addA m (mLst ms))) env (.list (xs ++ ys)) := fun te => by
  have s1 : xs.length + ys.length ≤ sizeLine := big h
  have e1 := ha te
  have e2 := lst_ev (te := .d (.list xs) :: te) hb (by omega)
  generalize mLst ms = ML at e2 ⊢
  rw [ev_mD, ev_mOp, e1, zq00, ek_mOp_0, e2, zq00, ek_mOp_1]
  simp! [s1]
theorem dA2 {env : Env} : Ev (mD (mDisp [((mC (.str "a")), (mC (.int 1))), ((mC (.str "b")), (mC (.int 2)))])) env (.dict [(.str "a", .int 1), (.str "b", .int 2)]) := fun te => by
  have e : mDisp [((mC (.str "a")), (mC (.int 1))), ((mC (.str "b")), (mC (.int 2)))] env te = .ok (.own (.dc [(.inr "a", .int 1), (.inr "b", .int 2)])) env := rfl
  show Rs.bind (mDisp _ env te) _ = _
  rw [e, zq00]
  rfl
theorem dA1 {env : Env} : Ev (mD (mDisp [((mC (.str "a")), (mC (.int 1)))])) env (.dict [(.str "a", .int 1)]) := fun te => by
  have e : mDisp [((mC (.str "a")), (mC (.int 1)))] env te = .ok (.own (.dc [(.inr "a", .int 1)])) env := rfl
  show Rs.bind (mDisp _ env te) _ = _
  rw [e, zq00]
  rfl
theorem dA0 {env : Env} : Ev (mD mDnew) env (.dict []) := fun te => rfl
def oddA : List Dt := [.none, .bool true, .bool false, .int 0, .int 1, .int (-7), .int (10 ^ 39), .str "", .str "A", .str "a ", .str "+a", .str "aaaaaaaaa", .str "a1", .str "z", .str "zzzzzzzz"]
def oddB : List Dt := [.str "`", .str "a\n", .str "{", .str "a{", .list [.str "z", .tuple []], .dict [(.str "a", .int 1), (.str "b", .int 2)]]
def oddC : List Dt := [.tuple [.str "a"], .tuple [.str "z", .tuple []], .list [.str "a"], .list [], .dict [], .dict [(.str "a", .int 1)], .tuple [], .tuple [.tuple [], .tuple []], .tuple [.tuple [.str "z", .tuple []]], .str "first"]
theorem odd_ok (g m c : Int) : ∃ (x : Dt) (g' c' : Int), x ∈ oddA ++ oddB ++ oddC ∧ f_oddL [.io (Dkv g m c)] = .ok (.d x) [.io (Dkv g' m c')] := by
  obtain ⟨x, hx, g1, c1, q1⟩ := pick_ok g m c (oddA ++ oddB ++ oddC) (by simp [oddA]) (by simp [oddA, oddB, oddC]) .list (.inl rfl)
  suffices h : DOk (fun r ios => ∃ (x : Dt) (g' c' : Int), x ∈ oddA ++ oddB ++ oddC ∧ r = .d x ∧ ios = [.io (Dkv g' m c')]) (f_oddL [.io (Dkv g m c)]) by
    obtain ⟨r, ios, e, x, g', c', h1, rfl, rfl⟩ := h.ex
    exact ⟨x, g', c', h1, e⟩
  unfold f_oddL
  refine run_ok ?_
  unfold m_oddL
  generalize f_pickL = F at q1 ⊢
  have e1 : Ev (mD (mLst (mCons (mC .none) (mCons (mC (.bool true)) (mCons (mC (.bool false)) (mCons (mC (.int 0)) (mCons (mC (.int 1)) (mCons (mD (mOp (fl2 subD) (mC (.int 0)) (mC (.int 7)))) (mCons (mD (mOp (fl2 powD) (mC (.int 10)) (mC (.int 39)))) (mCons (mC (.str "")) (mCons (mC (.str "A")) (mCons (mC (.str "a ")) (mCons (mC (.str "+a")) (mCons (mC (.str "aaaaaaaaa")) (mCons (mC (.str "a1")) (mCons (mC (.str "z")) (mCons (mC (.str "zzzzzzzz")) mNil))))))))))))))))) [some (.io (Dkv g m c)), none] (.list oddA) :=
    Ev.lst (Evs.cons Ev.c (Evs.cons Ev.c (Evs.cons Ev.c (Evs.cons Ev.c (Evs.cons Ev.c (Evs.cons (Ev.d (Ev.f2 Ev.c Ev.c (by rfl))) (Evs.cons (Ev.d (Ev.f2 Ev.c Ev.c (by show (if (0 : Int) ≤ 39 ∧ (39 : Int) ≤ 1000000 ∧ (10 : Int).natAbs < 2 ^ 64 then some (PyData.int (10 ^ (39 : Int).toNat)) else none) = some (.int (10 ^ 39)); rw [if_pos (by decide)]; rfl))) (Evs.cons Ev.c (Evs.cons Ev.c (Evs.cons Ev.c (Evs.cons Ev.c (Evs.cons Ev.c (Evs.cons Ev.c (Evs.cons Ev.c (Evs.cons Ev.c Evs.nil))))))))))))))) (by simp [oddA])
  have st : ∀ {M : ME} {e0 e1 : Option A} {l : List Dt}, Ev M [some (.io (Dkv g m c)), e0] (.list l) → (e0 = none ∨ ∃ x, e0 = some (.d x)) → mAsg M (gN 1) [some (.io (Dkv g m c)), e0] [] = .nx [some (.io (Dkv g m c)), some (.d (.list l))] := fun {M e0 e1 l} h h0 => by
    rw [ev_mAsg, h, ev_fl_ok]
    rcases h0 with rfl | ⟨x, rfl⟩ <;> simp!
  refine FP.st (st (e1 := none) e1 (.inl rfl)) ?_
  have e2 : Ev (mD (mOp addA (mVar 1) (mLst (mCons (mC (.str "`")) (mCons (mC (.str "a\n")) (mCons (mC (.str "{")) (mCons (mC (.str "a{")) (mCons (mD (mLst (mCons (mC (.str "z")) (mCons (mTup mNil) mNil)))) (mCons (mD (mDisp [((mC (.str "a")), (mC (.int 1))), ((mC (.str "b")), (mC (.int 2)))])) mNil))))))))) [some (.io (Dkv g m c)), some (.d (.list oddA))] (.list (oddA ++ oddB)) :=
    Ev.addL (Ev.v rfl) (Evs.cons Ev.c (Evs.cons Ev.c (Evs.cons Ev.c (Evs.cons Ev.c (Evs.cons (Ev.lst (Evs.cons Ev.c (Evs.cons (Ev.tup Evs.nil (Nat.le_of_ble_eq_true rfl)) Evs.nil)) (Nat.le_of_ble_eq_true rfl)) (Evs.cons dA2 Evs.nil)))))) (by simp [oddA, oddB])
  refine FP.st (st (e1 := none) e2 (.inr ⟨_, rfl⟩)) ?_
  have e3 : Ev (mD (mOp addA (mVar 1) (mLst (mCons (mTup (mCons (mC (.str "a")) mNil)) (mCons (mTup (mCons (mC (.str "z")) (mCons (mTup mNil) mNil))) (mCons (mD (mLst (mCons (mC (.str "a")) mNil))) (mCons (mD (mLst mNil)) (mCons (mD mDnew) (mCons (mD (mDisp [((mC (.str "a")), (mC (.int 1)))])) (mCons (mTup mNil) (mCons (mTup (mCons (mTup mNil) (mCons (mTup mNil) mNil))) (mCons (mTup (mCons (mTup (mCons (mC (.str "z")) (mCons (mTup mNil) mNil))) mNil)) (mCons (mC (.str "first")) mNil))))))))))))) [some (.io (Dkv g m c)), some (.d (.list (oddA ++ oddB)))] (.list (oddA ++ oddB ++ oddC)) :=
    have t0 : ∀ {env}, Ev (mTup mNil) env (.tuple []) := fun {_} => Ev.tup Evs.nil (Nat.le_of_ble_eq_true rfl)
    Ev.addL (Ev.v rfl) (Evs.cons (Ev.tup (Evs.cons Ev.c Evs.nil) (Nat.le_of_ble_eq_true rfl)) (Evs.cons (Ev.tup (Evs.cons Ev.c (Evs.cons t0 Evs.nil)) (Nat.le_of_ble_eq_true rfl)) (Evs.cons (Ev.lst (Evs.cons Ev.c Evs.nil) (Nat.le_of_ble_eq_true rfl)) (Evs.cons (Ev.lst Evs.nil (Nat.le_of_ble_eq_true rfl)) (Evs.cons dA0 (Evs.cons dA1 (Evs.cons t0 (Evs.cons (Ev.tup (Evs.cons t0 (Evs.cons t0 Evs.nil)) (Nat.le_of_ble_eq_true rfl)) (Evs.cons (Ev.tup (Evs.cons (Ev.tup (Evs.cons Ev.c (Evs.cons t0 Evs.nil)) (Nat.le_of_ble_eq_true rfl)) Evs.nil) (Nat.le_of_ble_eq_true rfl)) (Evs.cons Ev.c Evs.nil)))))))))) (by simp [oddA, oddB, oddC])
  refine FP.st (st (e1 := none) e3 (.inr ⟨_, rfl⟩)) ?_
  generalize oddA ++ oddB ++ oddC = OL at q1 hx ⊢
  exact FP.re (a := .d x) (e := [some (.io (Dkv g1 m c1)), some (.d (.list OL))]) (by simp! [q1]) ⟨_, rfl, x, g1, c1, hx, rfl, rfl⟩
end Tw

namespace Tw
open PySem PySem.Spec PyProof.Rows L2
end Tw

namespace Tw
open PySem PySem.Spec PyProof.Rows L2
/-! ### calls that draw -/
theorem plB_nest : ∀ {env : Env}, plB env = true → ∀ i, inE (isNest i) env = false
  | [], _, i => rfl
  | none :: e, h, i => plB_nest (env := e) h i
  | some (.d _) :: e, h, i => plB_nest (env := e) h i
  | some (.own _) :: e, h, i => plB_nest (env := e) h i
  | some (.sc _) :: e, h, i => plB_nest (env := e) h i
theorem asg_at {M : ME} {env e e' : Env} {x : A} {i : Nat} {te : List A} (h : M env te = .ok x e) (hg : gN i x e te = some e') : mAsg M (gN i) env te = .nx e' := by
  rw [ev_mAsg, h, ev_fl_ok]
  show (match gN i x e te with | some e => Fl.nx e | none => .bad) = _
  rw [hg]
end Tw

namespace Tw
open PySem PySem.Spec PyProof.Rows L2
/-! ### wishes -/
inductive Ws where
  | inn (a b : Str)
  | ahd (a b : Str)
  | here (a : Str)
  | nt (w : Ws)
  | an (v w : Ws)
  | or (v w : Ws)
def Ws.word : Ws → Str
  | .inn _ _ => "in" | .ahd _ _ => "ahead" | .here _ => "here" | .nt _ => "not" | .an _ _ => "and" | .or _ _ => "or"
def Ws.D : Ws → Dt
  | .inn a b => .tuple [.str "in", .str a, .str b]
  | .ahd a b => .tuple [.str "ahead", .str a, .str b]
  | .here a => .tuple [.str "here", .str a]
  | .nt w => .tuple [.str "not", w.D]
  | .an v w => .tuple [.str "and", v.D, w.D]
  | .or v w => .tuple [.str "or", v.D, w.D]
/-- how deep -/
def Ws.dp : Ws → Nat
  | .nt w => w.dp + 1
  | .an v w => max v.dp w.dp + 1
  | .or v w => max v.dp w.dp + 1
  | _ => 1
/-- how many -/
def Ws.ct : Ws → Nat
  | .nt w => w.ct + 1
  | .an v w => v.ct + w.ct + 1
  | .or v w => v.ct + w.ct + 1
  | _ => 1
def Ws.nm : Ws → Prop
  | .inn a b => IsNm a ∧ IsNm b
  | .ahd a b => IsNm a ∧ IsNm b
  | .here a => IsNm a
  | .nt w => w.nm
  | .an v w => v.nm ∧ w.nm
  | .or v w => v.nm ∧ w.nm
/-- whether it is so -/
def Ws.so (u : Wd) : Ws → Bool
  | .inn a b => decide (a ∈ u.names) && decide (b ∈ u.names) && decide (plc (true, b) u.toks < plc (true, a) u.toks ∧ plc (true, a) u.toks < plc (false, b) u.toks)
  | .ahd a b => decide (a ∈ u.names) && decide (b ∈ u.names) && decide (plc (false, a) u.toks < plc (true, b) u.toks)
  | .here a => decide (a ∈ u.names)
  | .nt w => !w.so u
  | .an v w => v.so u && w.so u
  | .or v w => v.so u || w.so u
def Ws.parts : Ws → List Ws
  | .nt w => [w]
  | .an v w => [v, w]
  | .or v w => [v, w]
  | _ => []
def Ws.ns : Ws → List Str
  | .inn a b => [a, b]
  | .ahd a b => [a, b]
  | .here a => [a]
  | _ => []
theorem Ws.part_ct (w : Ws) : (w.parts.map Ws.ct).sum + 1 = w.ct := by
  cases w <;> simp [Ws.parts, Ws.ct]
/-! ### the form of a wish -/
theorem Ws.plain : ∀ w : Ws, w.D.plain = true
  | .inn _ _ | .ahd _ _ | .here _ => rfl
  | .nt w => by
    show (true && (w.D.plain && true)) = true
    rw [Ws.plain w]; rfl
  | .an v w => by
    show (true && (v.D.plain && (w.D.plain && true))) = true
    rw [Ws.plain v, Ws.plain w]; rfl
  | .or v w => by
    show (true && (v.D.plain && (w.D.plain && true))) = true
    rw [Ws.plain v, Ws.plain w]; rfl
end Tw

namespace Tw
open PySem PySem.Spec PyProof.Rows L2
/-! ### a wish within the limits has no fault -/
end Tw

namespace Tw
open PySem PySem.Spec PyProof.Rows L2
end Tw

namespace Tw
open PySem PySem.Spec PyProof.Rows L2
def Ws.all : Ws → List Str
  | .nt w => w.all
  | .an v w => v.all ++ w.all
  | .or v w => v.all ++ w.all
  | .inn a b => [a, b]
  | .ahd a b => [a, b]
  | .here a => [a]
end Tw

namespace Tw
open PySem PySem.Spec PyProof.Rows L2
/-! ### gaps filled -/
def isTupD : Dt → Bool
  | .tuple _ => true
  | _ => false
theorem Ev.isiT {env : Env} {j : Nat} {x : Dt} (h : env[j]? = some (some (.d x))) : Ev (mIsi "tuple" (mVar j)) env (.bool (isTupD x)) := fun te => by
  cases x with
  | none => simp! [h, kb_NoneType_tuple, isTupD]
  | bool b => simp! [h, kb_bool_tuple, isTupD]
  | int i => simp! [h, kb_int_tuple, isTupD]
  | str z => simp! [h, kb_str_tuple, isTupD]
  | list l => simp! [h, kb_list_tuple, isTupD]
  | tuple l => simp! [h, kb_tuple_tuple, isTupD]
  | dict l => simp! [h, kb_dict_tuple, isTupD]
def fI (Gs : List (List Dt)) : List Dt → List Dt
  | [] => []
  | .int i :: r => (Gs[i.toNat]?).getD [] ++ fI Gs r
  | x :: r => x :: fI Gs r
end Tw

namespace Tw
open PySem PySem.Spec PyProof.Rows L2
end Tw

namespace Tw
open PySem PySem.Spec PyProof.Rows L2
end Tw

namespace Tw
open PySem PySem.Spec PyProof.Rows L2
theorem Ev.isiTE {m : ME} {env : Env} {x : Dt} (h : Ev m env x) : Ev (mIsi "tuple" m) env (.bool (isTupD x)) := fun te => by
  have h := h te
  cases x with
  | none => simp! [h, kb_NoneType_tuple, isTupD]
  | bool b => simp! [h, kb_bool_tuple, isTupD]
  | int i => simp! [h, kb_int_tuple, isTupD]
  | str z => simp! [h, kb_str_tuple, isTupD]
  | list l => simp! [h, kb_list_tuple, isTupD]
  | tuple l => simp! [h, kb_tuple_tuple, isTupD]
  | dict l => simp! [h, kb_dict_tuple, isTupD]
theorem Ev.eqNil {m : ME} {env : Env} {ws : List Dt} (h : Ev m env (.tuple ws)) : Ev (mOp (fl2 eqD) m (mTup mNil)) env (.bool ws.isEmpty) := by
  refine Ev.eq h (Ev.tup Evs.nil (Nat.zero_le _)) ?_
  unfold eqD okEq emptyEq
  rw [Bool.or_true, if_pos rfl]
  cases ws <;> rfl
end Tw

namespace Tw
open PySem PySem.Spec PyProof.Rows L2
end Tw

namespace Tw
open PySem PySem.Spec PyProof.Rows L2
/-! ### the gaps of a row that is filled -/
/-! ### how great the gaps of a wood are -/
end Tw

namespace Tw
open PySem PySem.Spec PyProof.Rows L2
/-! ### chains -/
end Tw

namespace Tw
open PySem PySem.Spec PyProof.Rows L2
/-! ### gaps put back -/
end Tw

namespace Tw
open PySem PySem.Spec PyProof.Rows L2
end Tw

namespace Tw
open PySem PySem.Spec PyProof.Rows L2
end Tw

namespace Tw
open PySem PySem.Spec PyProof.Rows L2
end Tw

namespace Tw
open PySem PySem.Spec PyProof.Rows L2
/-! ### all rows over some names -/
/-! ### each completion is a wood's row -/
end Tw

namespace Tw
open PySem PySem.Spec PyProof.Rows L2
def rowT (r : List Tok) : Dt := .tuple (r.map tkD)
/-! ### the program's rows -/
end Tw

namespace Tw
open PySem PySem.Spec PyProof.Rows L2
end Tw

namespace Tw
open PySem PySem.Spec PyProof.Rows L2
/-! ### the names of a wish -/
end Tw

namespace Tw
open PySem PySem.Spec PyProof.Rows L2
/-! ### a deed of the script has no fault -/
theorem deed_error_fn {d : Dd} (h : d.nm) : f_deed_error [.d d.D] = .ok (.d .none) [.d d.D] := by
  refine ok_of ?_
  unfold f_deed_error
  refine run_ok ?_
  unfold m_deed_error
  have qn := is_name_ok
  generalize f_is_name = F3 at qn ⊢
  have v0 : Ev (mVar 0) [some (.d d.D), none] (.tuple (.str d.k.str :: d.ns.map .str)) := Ev.v rfl
  have w0 := Ev.ix v0 (Ev.c (x := .int 0)) (atI_0 _ _)
  have ti : Ev (mIsi "tuple" (mVar 0)) [some (.d d.D), none] (.bool true) := Ev.isiT (x := d.D) rfl
  have te0 : Ev (mOp (fl2 eqD) (mVar 0) (mTup mNil)) [some (.d d.D), none] (.bool false) := by
    refine Ev.eq v0 (Ev.tup Evs.nil (Nat.zero_le _)) ?_
    unfold eqD okEq emptyEq
    rw [Bool.or_true, if_pos rfl]
    rfl
  have tw : Ev (mOp (fl2 (inD true)) (mOp ixA (mVar 0) (mC (.int 0))) (mC (.tuple (g_WORDS.map .str)))) [some (.d d.D), none] (.bool false) := by
    refine Ev.eq w0 Ev.c ?_
    cases d.k <;> rfl
  refine FP.sq (FP.ifF (or_ev (a := false) (b := false) (not_ev (ti.tst _)) (fun _ => or_ev (a := false) (b := false) (te0.tst _) (fun _ => tw.tst _))) (.nx ?_))
  have ts : Ev (mOp (fl2 (inD false)) (mOp ixA (mVar 0) (mC (.int 0))) (mC (.tuple (g_SINGLE.map .str)))) [some (.d d.D), none] (.bool d.k.one) := by
    refine Ev.eq w0 Ev.c ?_
    cases d.k <;> rfl
  have tl : Ev (mOp (fl2 neD) (mCB (one lenA) (mCons (mVar 0) mNil)) (mIfE (mTst (mOp (fl2 (inD false)) (mOp ixA (mVar 0) (mC (.int 0))) (mC (.tuple (g_SINGLE.map .str))))) (mC (.int 2)) (mC (.int 3)))) [some (.d d.D), none] (.bool false) := by
    refine Ev.eq (Ev.len v0) (Ev.ifE (b := d.k.one) (x := .int (if d.k.one = true then 2 else 3)) (fun te => ts.tst te) (fun e => by rw [if_pos e]; exact Ev.c) (fun e => by rw [if_neg (by rw [e]; exact fun z => nomatch z)]; exact Ev.c)) ?_
    unfold Dd.ns
    cases d.k.one <;> rfl
  refine FP.sq (FP.ifF (tl.tst _) (.nx ?_))
  have nl : d.ns.length ≤ 2 := by unfold Dd.ns; split <;> simp
  have hm : mSeqI (mD (mSl (mVar 0) (mPart (mC (.int 1))) mNoPart)) [some (.d d.D), none] [] = .ok ([.d (.tuple (d.ns.map .str))], fun _ => some (d.ns.map .str)) [some (.d d.D), none] := by
    have h2 := Ev.slF v0 (Ev.c (x := .int 1))
    have ec : cutD (PyData.str d.k.str :: d.ns.map .str) (some 1) none = d.ns.map .str := cutD_from _ 1
    rw [ec] at h2
    exact seqI_ev (Ev.d h2)
  have lc := lc_gen (tt := mYes) (el := mD (mCall (noXf F3) [false] (mCons (mVar 1) mNil))) (j := 1) (te := []) (fun _ => true) (fun x => .bool (isNmD x)) hm rfl (by simp! [od_some]) (by rw [List.length_map]; omega) (fun _ _ _ => rfl) (fun x hx _ acc => by
    exact Ev.d (Ev.call (Evs.cons (Ev.v (x := x) rfl) Evs.nil) rfl (qn x)) _)
  rw [List.filter_eq_self.mpr (fun _ _ => rfl)] at lc
  have hb := boolsD_map isNmD (d.ns.map PyData.str)
  have al : ((d.ns.map PyData.str).map isNmD).all id = true := by
    rw [List.all_eq_true]
    intro b hb
    obtain ⟨x, hx, rfl⟩ := List.mem_map.mp hb
    obtain ⟨z, hz, rfl⟩ := List.mem_map.mp hx
    refine decide_eq_true ?_
    unfold Dd.ns at hz
    split at hz
    · rw [List.mem_singleton.mp hz]; exact h.1
    · simp only [List.mem_cons, List.not_mem_nil, or_false] at hz
      rcases hz with rfl | rfl
      · exact h.1
      · exact h.2
  generalize mLc _ _ _ _ (mD (mCall (noXf F3) _ _)) _ = ML at lc ⊢
  generalize (d.ns.map PyData.str).map (fun x => PyData.bool (isNmD x)) = X at lc hb
  have e : mCB (one allA) (mCons ML mNil) [some (.d d.D), none] [] = .ok (.d (.bool true)) [some (.d d.D), none] := by
    show Rs.bind (mCons ML mNil _ _) _ = _
    rw [ev_mCons, lc]
    show allA _ (.own (.l X)) = _
    unfold allA
    show (match (some X).bind boolsD with | some bs => Rs.ok (A.d (.bool (bs.all id))) _ | none => .bad) = _
    rw [Option.bind_some, hb]
    dsimp only
    rw [al]
  refine FP.re (a := .d .none) (e := [some (.d d.D), none]) ?_ ⟨_, rfl, rfl, rfl⟩
  show Rs.bind (mTst _ _ _) _ = _
  have t : mTst (mCB (one allA) (mCons ML mNil)) [some (.d d.D), none] [] = .ok true [some (.d d.D), none] := by
    show Rs.bind (mCB _ _ _ _) _ = _
    rw [e]
    rfl
  rw [t, zq00]
  rfl
end Tw

namespace Tw
open PySem PySem.Spec PyProof.Rows L2
/-! ### a script of named deeds has no fault -/
theorem script_error_fn {ds : List Dd} (hl : ds.length ≤ 12) (hd : ∀ d ∈ ds, d.nm) (ho : (srtS (roN false (roF ds []))).length ≤ 4) (hn : (srtS (roN true (roF ds []))).length ≤ 3) : f_script_error [.d (.tuple (ds.map Dd.D))] = .ok (.d .none) [.d (.tuple (ds.map Dd.D))] := by
  refine ok_of ?_
  unfold f_script_error
  refine run_ok ?_
  unfold m_script_error
  have qd := @deed_error_fn
  have qo := old_names_fn ds (by omega) hd
  have qn := new_names_fn ds (by omega) hd
  generalize f_deed_error = F1 at qd ⊢
  generalize f_old_names = F2 at qo ⊢
  generalize f_new_names = F3 at qn ⊢
  have ti : Ev (mIsi "tuple" (mVar 0)) [some (.d (.tuple (ds.map Dd.D))), none, none, none] (.bool true) := Ev.isiT (x := .tuple (ds.map Dd.D)) rfl
  have tl := (Ev.eq (g := gtD) (Ev.len (Ev.v (env := [some (.d (.tuple (ds.map Dd.D))), none, none, none]) (i := 0) (x := .tuple (ds.map Dd.D)) rfl)) (Ev.c (x := .int (12 : Nat))) (gtD_nat _ _)).tst []
  rw [List.length_map, decide_eq_false (by omega)] at tl
  refine FP.sq (FP.ifF (or_ev (a := false) (b := false) (not_ev (ti.tst _)) (fun _ => tl)) (.nx ?_))
  refine FP.sq ?_
  refine fp_for (fun rr e => ∃ (k : Nat) (es : List Dd) (y1 y2 y3 : Option Dt), rr = ((es.map Dd.D).zipIdx k).map (fun q => PyData.tuple [.int q.2, q.1]) ∧ e = [some (.d (.tuple (ds.map Dd.D))), od y1, od y2, od y3] ∧ ∀ d ∈ es, d.nm) (as := [.d (.tuple (ds.map Dd.D))]) (rd := fun _ => some (enumD (ds.map Dd.D))) (xs := enumD (ds.map Dd.D)) (e := [some (.d (.tuple (ds.map Dd.D))), none, none, none]) (by rfl) ⟨0, ds, none, none, none, rfl, rfl, hd⟩ (fun _ _ _ => rfl) ?_ ?_
  · rintro x rr e ⟨k, es, y1, y2, y3, h1, rfl, h5⟩
    cases es with
    | nil => cases h1
    | cons d es =>
      rw [List.map_cons, List.zipIdx_cons, List.map_cons] at h1
      injection h1 with e1 e2
      subst e1 e2
      refine ⟨[some (.d (.tuple (ds.map Dd.D))), some (.d (.int (k : Nat))), some (.d d.D), od y3], by simp! [kdQ], ?_⟩
      have dB : ∀ y : Option Dt, deB [some (.d (.tuple (ds.map Dd.D))), some (.d (.int (k : Nat))), some (.d d.D), od y] = true := fun y => by simp [deB, deB_od]
      refine FP.st (e := [some (.d (.tuple (ds.map Dd.D))), some (.d (.int (k : Nat))), some (.d d.D), some (.d .none)]) (Asg.dt (Ev.call (Evs.cons (Ev.v rfl) Evs.nil) rfl (qd (h5 d List.mem_cons_self))) (dB y3) (by simp) rfl) ?_
      have t := (Ev.eq (g := notD) (Ev.v (env := [some (.d (.tuple (ds.map Dd.D))), some (.d (.int (k : Nat))), some (.d d.D), some (.d .none)]) (i := 3) rfl) (Ev.c (x := .none)) (b := false) rfl).tst ([.d (.tuple (ds.map Dd.D))] ++ [])
      refine FP.ifF t (.nx ?_)
      exact ⟨k + 1, es, some (.int k), some d.D, some .none, rfl, rfl, fun d' hd => h5 d' (List.mem_cons_of_mem _ hd)⟩
  · rintro e ⟨k, es, y1, y2, y3, h1, rfl, h5⟩
    cases es with
    | cons _ _ =>
      rw [List.map_cons, List.zipIdx_cons] at h1
      cases h1
    | nil =>
      have to := (Ev.eq (g := gtD) (Ev.len (Ev.call (Evs.cons (Ev.v (env := [some (.d (.tuple (ds.map Dd.D))), od y1, od y2, od y3]) (i := 0) (x := .tuple (ds.map Dd.D)) rfl) Evs.nil) rfl qo)) (Ev.c (x := .int (4 : Nat))) (gtD_nat _ _)).tst []
      rw [List.length_map, decide_eq_false (by omega)] at to
      refine FP.sq (FP.ifF to (.nx ?_))
      have tn := (Ev.eq (g := gtD) (Ev.len (Ev.call (Evs.cons (Ev.v (env := [some (.d (.tuple (ds.map Dd.D))), od y1, od y2, od y3]) (i := 0) (x := .tuple (ds.map Dd.D)) rfl) Evs.nil) rfl qn)) (Ev.c (x := .int (3 : Nat))) (gtD_nat _ _)).tst []
      rw [List.length_map, decide_eq_false (by omega)] at tn
      refine FP.re (a := .d .none) (e := [some (.d (.tuple (ds.map Dd.D))), od y1, od y2, od y3]) ?_ ⟨_, rfl, rfl, rfl⟩
      show Rs.bind (mTst _ _ _) _ = _
      have tn2 : mTst (mOp (fl2 gtD) (mCB (one lenA) (mCons (mCall (noXf F3) [false] (mCons (mVar 0) mNil)) mNil)) (mC (PyData.int 3))) [some (A.d (PyData.tuple (List.map Dd.D ds))), od y1, od y2, od y3] [] = .ok false [some (A.d (PyData.tuple (List.map Dd.D ds))), od y1, od y2, od y3] := tn
      rw [tn2, zq00]
      rfl
end Tw

namespace Tw
open PySem PySem.Spec PyProof.Rows L2
/-! ### all_rows gets a list that rows_for made -/
/-! ### deeds that keep all nodes -/
def Wk.keep : Wk → Bool
  | .lift => false | .cut => false | .wrap => false | .put => false | _ => true
/-! ### all rows of the called names -/
end Tw

namespace Tw
open PySem PySem.Spec PyProof.Rows L2
/-! ### such deeds keep the names -/
/-! ### wishes by the row alone -/
end Tw

namespace Tw
open PySem PySem.Spec PyProof.Rows L2
/-! ### where -/
/-! ### what the law asks of one script -/
/-! ### logic of sureness -/
end Tw

namespace Tw
open PySem PySem.Spec PyProof.Rows L2
/-! ### the law's questions about one script -/
theorem neD_bool (a : Bool) : neD (.bool a) (.bool a) = some (.bool false) := neD_self rfl (by simp [PyData.depth])
/-! ### a script that keeps all nodes is drawn -/
end Tw

namespace Tw
open PySem PySem.Spec PyProof.Rows L2
/-! ### wishes and what is none, by the data alone -/
def six6 : List Str := ["in", "ahead", "here", "not", "and", "or"]
def lfW (z : Str) : Bool := decide (z ∈ (["in", "ahead", "here"] : List Str))
def arW (z : Str) : Nat := if z = "here" ∨ z = "not" then 1 else 2
def isFm : Dt → Bool
  | .tuple (.str z :: r) => decide (z ∈ six6) && decide (r.length = arW z)
  | _ => false
def kidD : Dt → List Dt
  | .tuple (.str z :: r) => if lfW z = true then [] else r
  | _ => []
def badNm : Dt → Bool
  | .tuple (.str z :: r) => lfW z && !(r.all isNmD)
  | _ => false
mutual
def nd : Dt → Nat
  | .tuple xs => ndL xs + 1
  | _ => 1
def ndL : List Dt → Nat
  | [] => 0
  | x :: xs => nd x + ndL xs
end
abbrev Pd := List Nat × Dt
def kidP (p : List Nat) : Nat → List Dt → List Pd
  | _, [] => []
  | k, x :: r => (p ++ [k], x) :: kidP p (k + 1) r
abbrev WR := (List Nat × Str) ⊕ List Nat
inductive Sc : List Pd → List Nat → WR → Prop
  | nil (acc : List Nat) : Sc [] acc (.inr acc)
  | bad {p : List Nat} {x : Dt} {r : List Pd} {acc : List Nat} (hf : isFm x = false) : Sc ((p, x) :: r) acc (.inl (p, "wish"))
  | name {p : List Nat} {x : Dt} {r : List Pd} {acc : List Nat} (hf : isFm x = true) (hb : badNm x = true) : Sc ((p, x) :: r) acc (.inl (p, "name"))
  | step {p : List Nat} {x : Dt} {r : List Pd} {acc : List Nat} {R : WR} (hf : isFm x = true) (hb : badNm x = false) (h : Sc (kidP p 0 (kidD x) ++ r) (acc ++ [p.length]) R) : Sc ((p, x) :: r) acc R
theorem nd_pos : ∀ x : Dt, 1 ≤ nd x
  | .tuple xs => by unfold nd; omega
  | .none | .bool _ | .int _ | .str _ | .list _ | .dict _ => by unfold nd; omega
theorem nd_tup (xs : List Dt) : nd (.tuple xs) = ndL xs + 1 := by unfold nd; rfl
theorem ndL_cons (x : Dt) (xs : List Dt) : ndL (x :: xs) = nd x + ndL xs := by rw [ndL]
theorem ndL_nil : ndL [] = 0 := by rw [ndL]
theorem ndL_mem : ∀ {xs : List Dt} {x : Dt}, x ∈ xs → nd x ≤ ndL xs
  | y :: xs, x, h => by
    rw [ndL_cons]
    rcases List.mem_cons.mp h with rfl | h
    · omega
    · have := ndL_mem h; omega
theorem nd_kid : ∀ x : Dt, ndL (kidD x) < nd x
  | .tuple [] => by show ndL [] < nd (.tuple []); rw [nd_tup, ndL_nil]; omega
  | .tuple (.str z :: r) => by
    have := nd_pos (.str z)
    show ndL (if lfW z = true then [] else r) < _
    rw [nd_tup, ndL_cons]
    split
    · rw [ndL_nil]; omega
    · omega
  | .tuple (.none :: r) | .tuple (.bool _ :: r) | .tuple (.int _ :: r) | .tuple (.list _ :: r) | .tuple (.tuple _ :: r) | .tuple (.dict _ :: r) => by
    show ndL [] < _
    rw [nd_tup, ndL_nil]; omega
  | .none | .bool _ | .int _ | .str _ | .list _ | .dict _ => by show ndL [] < nd _; rw [ndL_nil]; exact nd_pos _
theorem kidP_mem (p : List Nat) : ∀ (k : Nat) (xs : List Dt) (q : Pd), q ∈ kidP p k xs → ∃ j, k ≤ j ∧ j < k + xs.length ∧ q.1 = p ++ [j] ∧ q.2 ∈ xs
  | _, [], q, h => nomatch h
  | k, x :: r, q, h => by
    rw [List.length_cons]
    rcases List.mem_cons.mp h with rfl | h
    · exact ⟨k, Nat.le_refl _, by omega, rfl, List.mem_cons_self⟩
    · obtain ⟨j, h1, h2, h3, h4⟩ := kidP_mem p (k + 1) r q h
      exact ⟨j, by omega, by omega, h3, List.mem_cons_of_mem _ h4⟩
theorem fm_tup {x : Dt} (h : isFm x = true) : ∃ z r, x = .tuple (.str z :: r) ∧ z ∈ six6 ∧ r.length = arW z := by
  cases x with
  | tuple l =>
    cases l with
    | nil => cases h
    | cons a r =>
      cases a with
      | str z =>
        have h : (decide (z ∈ six6) && decide (r.length = arW z)) = true := h
        rw [Bool.and_eq_true, decide_eq_true_eq, decide_eq_true_eq] at h
        exact ⟨z, r, rfl, h.1, h.2⟩
      | _ => cases h
  | _ => cases h
theorem arW_le (z : Str) : arW z ≤ 2 := by unfold arW; split <;> omega
theorem kidD_len {x : Dt} (h : isFm x = true) : (kidD x).length ≤ 2 := by
  obtain ⟨z, r, rfl, _, h2⟩ := fm_tup h
  have := arW_le z
  show (if lfW z = true then [] else r).length ≤ 2
  split
  · exact Nat.zero_le _
  · omega
/-! ### small results -/
def SmR (N : Nat) : WR → Prop
  | .inl (p, s) => p.length ≤ N ∧ (∀ k ∈ p, k ≤ 1) ∧ (s = "wish" ∨ s = "name")
  | .inr _ => True
theorem Sc.small {N : Nat} {pend : List Pd} {acc : List Nat} {R : WR} (h : Sc pend acc R) : (∀ q ∈ pend, q.1.length + nd q.2 ≤ N ∧ ∀ k ∈ q.1, k ≤ 1) → SmR N R := by
  induction h with
  | nil acc => intro _; trivial
  | @bad p x r acc hf =>
    intro hq
    obtain ⟨h1, h2⟩ := hq (p, x) List.mem_cons_self
    exact ⟨by have : p.length + nd x ≤ N := h1; omega, h2, .inl rfl⟩
  | @name p x r acc hf hb =>
    intro hq
    obtain ⟨h1, h2⟩ := hq (p, x) List.mem_cons_self
    exact ⟨by have : p.length + nd x ≤ N := h1; omega, h2, .inr rfl⟩
  | @step p x r acc R hf hb hs ih =>
    intro hq
    obtain ⟨h1, h2⟩ := hq (p, x) List.mem_cons_self
    refine ih fun q hm => ?_
    rcases List.mem_append.mp hm with hm | hm
    · obtain ⟨j, j1, j2, j3, j4⟩ := kidP_mem p 0 _ q hm
      have k1 := ndL_mem j4
      have k2 := nd_kid x
      have k3 := kidD_len hf
      have h1 : p.length + nd x ≤ N := h1
      rw [j3]
      refine ⟨by rw [List.length_append, List.length_singleton]; omega, fun k hk => ?_⟩
      rcases List.mem_append.mp hk with hk | hk
      · exact h2 k hk
      · rw [List.mem_singleton.mp hk]; omega
    · exact hq q (List.mem_cons_of_mem _ hm)
/-! ### what has no fault is a wish -/
theorem nm_of {y : Dt} (h : isNmD y = true) : ∃ a, y = .str a ∧ IsNm a := by
  cases y with
  | str a => exact ⟨a, rfl, of_decide_eq_true h⟩
  | _ => cases h
theorem two {α : Type} {r : List α} (h : r.length = 2) : ∃ a b, r = [a, b] := by
  cases r with
  | nil => cases h
  | cons a r => cases r with
    | nil => cases h
    | cons b r => cases r with
      | nil => exact ⟨a, b, rfl⟩
      | cons c r => simp at h
theorem one1 {α : Type} {r : List α} (h : r.length = 1) : ∃ a, r = [a] := by
  cases r with
  | nil => cases h
  | cons a r => cases r with
    | nil => exact ⟨a, rfl⟩
    | cons c r => simp at h
theorem lf_in : lfW "in" = true ∧ lfW "ahead" = true ∧ lfW "here" = true ∧ lfW "not" = false ∧ lfW "and" = false ∧ lfW "or" = false := by decide +kernel
theorem ar_in : arW "in" = 2 ∧ arW "ahead" = 2 ∧ arW "here" = 1 ∧ arW "not" = 1 ∧ arW "and" = 2 ∧ arW "or" = 2 := by decide +kernel
theorem ws_of {x : Dt} {p ds : List Nat} (hf : isFm x = true) (hb : badNm x = false) (hp : p.length ∈ ds) (hk : ∀ q ∈ kidP p 0 (kidD x), ∃ w : Ws, w.nm ∧ q.2 = w.D ∧ ∃ d ∈ ds, d + 1 = q.1.length + w.dp) : ∃ w : Ws, w.nm ∧ x = w.D ∧ ∃ d ∈ ds, d + 1 = p.length + w.dp := by
  obtain ⟨z, r, rfl, h1, h2⟩ := fm_tup hf
  obtain ⟨l1, l2, l3, l4, l5, l6⟩ := lf_in
  obtain ⟨r1, r2, r3, r4, r5, r6⟩ := ar_in
  have hb : (lfW z && !(r.all isNmD)) = false := hb
  have hk : ∀ q ∈ kidP p 0 (if lfW z = true then [] else r), ∃ w : Ws, w.nm ∧ q.2 = w.D ∧ ∃ d ∈ ds, d + 1 = q.1.length + w.dp := hk
  have all : lfW z = true → ∀ y ∈ r, isNmD y = true := fun h => by
    rw [h, Bool.true_and] at hb
    have : r.all isNmD = true := by simpa using hb
    exact List.all_eq_true.mp this
  simp only [six6, List.mem_cons, List.not_mem_nil, or_false] at h1
  rcases h1 with rfl | rfl | rfl | rfl | rfl | rfl
  · obtain ⟨u, v, rfl⟩ := two (h2.trans r1)
    obtain ⟨a, rfl, ha⟩ := nm_of (all l1 u List.mem_cons_self)
    obtain ⟨b, rfl, hb2⟩ := nm_of (all l1 v (List.mem_cons_of_mem _ List.mem_cons_self))
    exact ⟨.inn a b, ⟨ha, hb2⟩, rfl, _, hp, rfl⟩
  · obtain ⟨u, v, rfl⟩ := two (h2.trans r2)
    obtain ⟨a, rfl, ha⟩ := nm_of (all l2 u List.mem_cons_self)
    obtain ⟨b, rfl, hb2⟩ := nm_of (all l2 v (List.mem_cons_of_mem _ List.mem_cons_self))
    exact ⟨.ahd a b, ⟨ha, hb2⟩, rfl, _, hp, rfl⟩
  · obtain ⟨u, rfl⟩ := one1 (h2.trans r3)
    obtain ⟨a, rfl, ha⟩ := nm_of (all l3 u List.mem_cons_self)
    exact ⟨.here a, ha, rfl, _, hp, rfl⟩
  · obtain ⟨u, rfl⟩ := one1 (h2.trans r4)
    rw [l4] at hk
    obtain ⟨w, wn, wD, d, hd, e⟩ := hk (p ++ [0], u) List.mem_cons_self
    have wD : u = w.D := wD
    subst wD
    refine ⟨.nt w, wn, rfl, d, hd, ?_⟩
    have e : d + 1 = (p ++ [0]).length + w.dp := e
    rw [List.length_append, List.length_singleton] at e
    show d + 1 = p.length + (w.dp + 1)
    omega
  · obtain ⟨u, v, rfl⟩ := two (h2.trans r5)
    rw [l5] at hk
    obtain ⟨w, wn, wD, d, hd, e⟩ := hk (p ++ [0], u) List.mem_cons_self
    obtain ⟨w', wn', wD', d', hd', e'⟩ := hk (p ++ [1], v) (List.mem_cons_of_mem _ List.mem_cons_self)
    have wD : u = w.D := wD
    have wD' : v = w'.D := wD'
    subst wD wD'
    have e : d + 1 = (p ++ [0]).length + w.dp := e
    have e' : d' + 1 = (p ++ [1]).length + w'.dp := e'
    rw [List.length_append, List.length_singleton] at e e'
    by_cases c : w.dp ≤ w'.dp
    · exact ⟨.an w w', ⟨wn, wn'⟩, rfl, d', hd', by show d' + 1 = p.length + (max w.dp w'.dp + 1); omega⟩
    · exact ⟨.an w w', ⟨wn, wn'⟩, rfl, d, hd, by show d + 1 = p.length + (max w.dp w'.dp + 1); omega⟩
  · obtain ⟨u, v, rfl⟩ := two (h2.trans r6)
    rw [l6] at hk
    obtain ⟨w, wn, wD, d, hd, e⟩ := hk (p ++ [0], u) List.mem_cons_self
    obtain ⟨w', wn', wD', d', hd', e'⟩ := hk (p ++ [1], v) (List.mem_cons_of_mem _ List.mem_cons_self)
    have wD : u = w.D := wD
    have wD' : v = w'.D := wD'
    subst wD wD'
    have e : d + 1 = (p ++ [0]).length + w.dp := e
    have e' : d' + 1 = (p ++ [1]).length + w'.dp := e'
    rw [List.length_append, List.length_singleton] at e e'
    by_cases c : w.dp ≤ w'.dp
    · exact ⟨.or w w', ⟨wn, wn'⟩, rfl, d', hd', by show d' + 1 = p.length + (max w.dp w'.dp + 1); omega⟩
    · exact ⟨.or w w', ⟨wn, wn'⟩, rfl, d, hd, by show d + 1 = p.length + (max w.dp w'.dp + 1); omega⟩
theorem Sc.good {pend : List Pd} {acc : List Nat} {R : WR} (h : Sc pend acc R) : ∀ ds, R = .inr ds → (∃ t, ds = acc ++ t) ∧ ∀ q ∈ pend, ∃ w : Ws, w.nm ∧ q.2 = w.D ∧ ∃ d ∈ ds, d + 1 = q.1.length + w.dp := by
  induction h with
  | nil acc => intro ds e; cases e; exact ⟨⟨[], by simp⟩, fun _ h => nomatch h⟩
  | bad => intro ds e; cases e
  | name => intro ds e; cases e
  | @step p x r acc R hf hb hs ih =>
    intro ds e
    obtain ⟨⟨t, ht⟩, ih⟩ := ih ds e
    refine ⟨⟨p.length :: t, by rw [ht]; simp⟩, fun q hq => ?_⟩
    rcases List.mem_cons.mp hq with rfl | hq
    · exact ws_of hf hb (by rw [ht]; simp) fun q hq => ih q (List.mem_append_left _ hq)
    · exact ih q (List.mem_append_right _ hq)
/-! ### the answer -/
def plD (p : List Nat) : List Dt := p.map fun k => .int (k : Nat)
def endW (ds : List Nat) : Dt := if ∃ d ∈ ds, 5 ≤ d then .tuple [.tuple [], .str "deep"] else if 12 < ds.length then .tuple [.tuple [], .str "many"] else .none
def resW : WR → Dt
  | .inl (p, s) => .tuple [.tuple (plD p), .str s]
  | .inr ds => endW ds
theorem resW_none {x : Dt} {R : WR} (h : Sc [([], x)] [] R) (hn : resW R = .none) : ∃ w : Ws, w.nm ∧ w.dp ≤ 5 ∧ x = w.D := by
  cases R with
  | inl q => cases hn
  | inr ds =>
    obtain ⟨_, hg⟩ := h.good ds rfl
    obtain ⟨w, wn, wD, d, hd, e⟩ := hg ([], x) List.mem_cons_self
    refine ⟨w, wn, ?_, wD⟩
    have e : d + 1 = 0 + w.dp := e
    have hn : endW ds = .none := hn
    unfold endW at hn
    split at hn
    · cases hn
    · rename_i c
      have : ¬ 5 ≤ d := fun z => c ⟨d, hd, z⟩
      omega
end Tw

namespace Tw
open PySem PySem.Spec PyProof.Rows L2
/-! ### the program's judge of wishes, at any data -/
end Tw

namespace Tw
open PySem PySem.Spec PyProof.Rows L2
/-! ### strip(letters) of a text -/
end Tw

namespace Tw
open PySem PySem.Spec PyProof.Rows L2
/-! ### the law's judge of wishes, at any data -/
end Tw

namespace Tw
open PySem PySem.Spec PyProof.Rows L2
end Tw

namespace Tw
open PySem PySem.Spec PyProof.Rows L2
/-! ### is_so refuses what is no wish -/
/-! ### the answers can be shown -/
end Tw

namespace Tw
open PySem PySem.Spec PyProof.Rows L2
/-! ### wishes that grow -/
theorem tst_at {M : ME} {env e : Env} {te : List A} {b : Bool} (h : M env te = .ok (.d (.bool b)) e) : mTst M env te = .ok b e := by
  show (M env te).bind tstA = _
  rw [h, zq00]
  rfl
end Tw

namespace Tw
open PySem PySem.Spec PyProof.Rows L2
/-! ### wishes with something changed -/
end Tw

namespace Tw
open PySem PySem.Spec PyProof.Rows L2
/-! ### what can be shown though empty dicts lie in it -/
/-! ### of what may come of a wish -/
end Tw

namespace Tw
open PySem PySem.Spec PyProof.Rows L2
/-! ### how many rows there are -/
end Tw

namespace Tw
open PySem PySem.Spec PyProof.Rows L2
/-! ### rows in order -/
/-! ### rows with one node more -/
abbrev free (n : Str) (r : List Tok) : Prop := ∀ p ∈ r, p.2 ≠ n
/-! ### they are the rows of woods -/
end Tw

namespace Tw
open PySem PySem.Spec PyProof.Rows L2
/-! ### the law's rows -/
end Tw

namespace Tw
open PySem PySem.Spec PyProof.Rows L2
/-! ### rows with one node more, as the law makes them -/
end Tw

namespace Tw
open PySem PySem.Spec PyProof.Rows L2
end Tw

namespace Tw
open PySem PySem.Spec PyProof.Rows L2
/-! ### what is a tuple of unlike names, four at most -/
def lenT : Dt → Nat
  | .tuple xs => xs.length
  | _ => 0
end Tw

namespace Tw
open PySem PySem.Spec PyProof.Rows L2
/-! ### all woods with some names -/
end Tw

namespace Tw
open PySem PySem.Spec PyProof.Rows L2
/-! ### what is no deed, any data -/
def dErr : Dt → Dt
  | .tuple (.str w :: ns) => if w ∈ g_WORDS then (if ns.length = (if w ∈ g_SINGLE then 1 else 2) then (if ns.all isNmD = true then .none else .str "name") else .str "deed") else .str "deed"
  | _ => .str "deed"
def hasW (y : Dt) (ts : List Str) : Bool := match y with
  | .str w => decide (w ∈ ts)
  | _ => false
theorem inD_any (neg : Bool) (y : Dt) (ts : List Str) : inD neg y (.tuple (ts.map .str)) = some (.bool (if neg then !hasW y ts else hasW y ts)) := by
  by_cases h : ∃ w, y = .str w
  · obtain ⟨w, rfl⟩ := h
    exact inD_tup neg w ts
  · have e0 : hasW y ts = false := by
      cases y with
      | str w => exact absurd ⟨w, rfl⟩ h
      | _ => rfl
    have e1 : ∀ s : Str, PyData.eqv (.str s) y = false := fun s => by
      cases y with
      | str w => exact absurd ⟨w, rfl⟩ h
      | _ => simp [PyData.eqv]
    have a1 : ((ts.map PyData.str).any fun z => PyData.eqv z y) = false := List.any_eq_false.mpr fun z hz => by
      obtain ⟨s, _, rfl⟩ := List.mem_map.mp hz
      rw [e1]
      exact Bool.false_ne_true
    have a2 : (ts.any fun s => PyData.eqv (.str s) y) = false := List.any_eq_false.mpr fun s _ => by
      rw [e1]
      exact Bool.false_ne_true
    show (if y.plain = true ∧ PyData.plainAll (ts.map .str) = true ∧ min (PyData.depthAll (ts.map .str)) y.depth ≤ 190 then some (PyData.bool (if neg then !((ts.map PyData.str).any fun z => PyData.eqv z y) else (ts.map PyData.str).any fun z => PyData.eqv z y)) else
      (match strsD (ts.map .str) with
      | some ss => some (PyData.bool (if neg then !(ss.any fun s => PyData.eqv (.str s) y) else ss.any fun s => PyData.eqv (.str s) y))
      | none => none)) = _
    rw [strsD_map, a1, e0]
    dsimp only
    rw [a2]
    split <;> rfl
theorem dErr_word {w : Str} {ns : List Dt} (h : w ∉ g_WORDS) : dErr (.tuple (.str w :: ns)) = .str "deed" := if_neg h
theorem dErr_len {w : Str} {ns : List Dt} (h : w ∈ g_WORDS) (hl : ns.length ≠ (if w ∈ g_SINGLE then 1 else 2)) : dErr (.tuple (.str w :: ns)) = .str "deed" := (if_pos h).trans (if_neg hl)
theorem dErr_ns {w : Str} {ns : List Dt} (h : w ∈ g_WORDS) (hl : ns.length = (if w ∈ g_SINGLE then 1 else 2)) : dErr (.tuple (.str w :: ns)) = if ns.all isNmD = true then .none else .str "name" := (if_pos h).trans (if_pos hl)
theorem deed_error_any {x : Dt} (hl : lenT x ≤ 1000) : f_deed_error [.d x] = .ok (.d (dErr x)) [.d x] := by
  refine ok_of ?_
  unfold f_deed_error
  refine run_ok ?_
  unfold m_deed_error
  have qn := is_name_ok
  generalize f_is_name = F at qn ⊢
  show FP _ _ (mSeq _ _ [some (.d x), none] [])
  have v0 : Ev (mVar 0) [some (.d x), none] x := Ev.v rfl
  have i1 := Ev.isiTE v0
  cases x with
  | tuple l =>
    have hl : l.length ≤ 1000 := hl
    have i1 : Ev (mIsi "tuple" (mVar 0)) [some (.d (.tuple l)), none] (.bool true) := i1
    have e0 := Ev.eqNil v0
    cases l with
    | nil => exact FP.sq (FP.ifT (or_ev (a := false) (b := true) (not_ev (i1.tst _)) (fun _ => or_ev (a := true) (b := true) (e0.tst _) (fun h => nomatch h))) (FP.re (a := .d (.str "deed")) (e := [some (.d (.tuple [])), none]) rfl ⟨_, rfl, rfl, rfl⟩))
    | cons a r =>
      rw [List.length_cons] at hl
      have w0 : Ev (mOp ixA (mVar 0) (mC (.int 0))) [some (.d (.tuple (a :: r))), none] a := Ev.ix v0 Ev.c (atI_0 _ _)
      have tw := Ev.eq w0 (Ev.c (x := .tuple (g_WORDS.map .str))) (inD_any true a g_WORDS)
      cases hw : hasW a g_WORDS with
      | false =>
        rw [hw] at tw
        refine FP.sq (FP.ifT (or_ev (a := false) (b := true) (not_ev (i1.tst _)) (fun _ => or_ev (a := false) (b := true) (e0.tst _) (fun _ => tw.tst _))) (FP.re (a := .d (.str "deed")) (e := [some (.d (.tuple (a :: r))), none]) rfl ⟨_, rfl, ?_, rfl⟩))
        cases a with
        | str w => rw [dErr_word (of_decide_eq_false hw)]
        | _ => rfl
      | true =>
        rw [hw] at tw
        obtain ⟨w, rfl⟩ : ∃ w, a = .str w := by cases a <;> first | exact ⟨_, rfl⟩ | cases hw
        have hm : w ∈ g_WORDS := of_decide_eq_true hw
        refine FP.sq (FP.ifF (or_ev (a := false) (b := false) (not_ev (i1.tst _)) (fun _ => or_ev (a := false) (b := false) (e0.tst _) (fun _ => tw.tst _))) (.nx ?_))
        have ts := Ev.eq w0 (Ev.c (x := .tuple (g_SINGLE.map .str))) (inD_any false (.str w) g_SINGLE)
        have si : Ev (mIfE (mTst (mOp (fl2 (inD false)) (mOp ixA (mVar 0) (mC (.int 0))) (mC (.tuple (g_SINGLE.map .str))))) (mC (.int 2)) (mC (.int 3))) [some (.d (.tuple (.str w :: r))), none] (.int ((if w ∈ g_SINGLE then 2 else 3 : Nat) : Int)) := by
          refine Ev.ifE (b := decide (w ∈ g_SINGLE)) (fun te => ts.tst te) (fun e => ?_) (fun e => ?_)
          · rw [if_pos (of_decide_eq_true e)]
            exact Ev.c
          · rw [if_neg (of_decide_eq_false e)]
            exact Ev.c
        have tl := (Ev.eq (Ev.len v0) si (neD_int _ _)).tst []
        by_cases hl2 : r.length = (if w ∈ g_SINGLE then 1 else 2)
        case neg =>
          rw [decide_eq_false (by rw [List.length_cons]; split at hl2 <;> simp_all <;> omega)] at tl
          refine FP.sq (FP.ifT tl (FP.re (a := .d (.str "deed")) (e := [some (.d (.tuple (.str w :: r))), none]) rfl ⟨_, rfl, ?_, rfl⟩))
          rw [dErr_len hm hl2]
        case pos =>
          rw [decide_eq_true (by rw [List.length_cons, hl2]; split <;> rfl)] at tl
          refine FP.sq (FP.ifF tl (.nx ?_))
          have hmi : ∀ te, mSeqI (mD (mSl (mVar 0) (mPart (mC (.int 1))) mNoPart)) [some (.d (.tuple (.str w :: r))), none] te = .ok ([.d (.tuple r)], fun _ => some r) [some (.d (.tuple (.str w :: r))), none] := fun te => by
            have h2 := Ev.slF v0 (Ev.c (x := .int 1))
            have ec : cutD (PyData.str w :: r) (some 1) none = r := cutD_from _ 1
            rw [ec] at h2
            exact seqI_ev (Ev.d h2)
          have al := (all_ev (mi := mSeqI (mD (mSl (mVar 0) (mPart (mC (.int 1))) mNoPart))) (el := mD (mCall (noXf F) [false] (mCons (mVar 1) mNil))) (j := 1) (env := [some (.d (.tuple (.str w :: r))), none]) isNmD hmi rfl rfl (by omega) (fun y _ => Ev.d (Ev.call (Evs.cons (Ev.v rfl) Evs.nil) rfl (qn y)))).1
          refine FP.re (a := .d (dErr (.tuple (.str w :: r)))) (e := [some (.d (.tuple (.str w :: r))), none]) ?_ ⟨_, rfl, rfl, rfl⟩
          rw [dErr_ns hm hl2]
          show Rs.bind (mTst _ _ _) _ = _
          rw [tst_at al, zq00]
          cases r.all isNmD <;> rfl
  | _ => exact FP.sq (FP.ifT (or_ev (a := true) (b := true) (not_ev (i1.tst _)) (fun h => nomatch h)) (FP.re (a := .d (.str "deed")) rfl ⟨_, rfl, rfl, rfl⟩))
end Tw

namespace Tw
open PySem PySem.Spec PyProof.Rows L2
/-! ### the law's judge of deeds -/
end Tw

namespace Tw
open PySem PySem.Spec PyProof.Rows L2
theorem roN_snoc (b c : Bool) (n : Str) (l : Ro) : roN b (l ++ [(n, c)]) = if c = b then roN b l ++ [n] else roN b l := by
  unfold roN
  rw [List.filter_append, List.map_append]
  by_cases h : c = b
  · subst h
    rw [if_pos rfl]
    simp
  · rw [if_neg h]
    simp [h]
theorem roN_memB (n : Str) (l : Ro) : n ∈ roN false l ++ roN true l ↔ n ∈ l.map (·.1) := by
  unfold roN
  simp only [List.mem_append, List.mem_map, List.mem_filter]
  constructor
  · rintro (⟨p, h, e⟩ | ⟨p, h, e⟩)
    · exact ⟨p, h.1, e⟩
    · exact ⟨p, h.1, e⟩
  · rintro ⟨p, h, e⟩
    cases hp : p.2 with
    | false => exact .inl ⟨p, ⟨h, by rw [hp]; rfl⟩, e⟩
    | true => exact .inr ⟨p, ⟨h, by rw [hp]; rfl⟩, e⟩
theorem rlPut_ro (c : Bool) (n : Str) (l : Ro) : rlPut c n (roN false l, roN true l) = (roN false (roPut c n l), roN true (roPut c n l)) := by
  unfold rlPut roPut
  by_cases h : n ∈ l.map (·.1)
  · rw [if_pos h, if_pos ((roN_memB n l).mpr h)]
  · rw [if_neg h, if_neg (fun z => h ((roN_memB n l).mp z))]
    rw [roN_snoc, roN_snoc]
    cases c <;> rfl
theorem rlGo_ro (M : Nat) : ∀ (ns : List Str) (k : Nat) (l : Ro), rlGo M k ns (roN false l, roN true l) = (roN false (roGo M k ns l), roN true (roGo M k ns l))
  | [], _, _ => rfl
  | n :: ns, k, l => by
    show rlGo M (k + 1) ns (rlPut (decide (k = M)) n (roN false l, roN true l)) = _
    rw [rlPut_ro]
    exact rlGo_ro M ns (k + 1) _
theorem rlF_ro : ∀ (ds : List Dd) (l : Ro), rlF ds (roN false l, roN true l) = (roN false (roF ds l), roN true (roF ds l))
  | [], _ => rfl
  | d :: ds, l => by
    show rlF ds (rlGo d.made 1 d.ns (roN false l, roN true l)) = _
    rw [rlGo_ro]
    exact rlF_ro ds _
def oldN (ds : List Dd) : List Str := srtS (roN false (roF ds []))
def newN (ds : List Dd) : List Str := srtS (roN true (roF ds []))
/-! ### what is a right deed -/
/-- the first item that is no deed, and the reason -/
def fstBad : Nat → List Dt → Option (Nat × Dt)
  | _, [] => none
  | k, x :: r => match dErr x with
    | .none => fstBad (k + 1) r
    | e => some (k, e)
theorem fst_ok {k : Nat} {x : Dt} {r : List Dt} (h : dErr x = .none) : fstBad k (x :: r) = fstBad (k + 1) r := by
  show (match dErr x with | .none => fstBad (k + 1) r | e => some (k, e)) = _
  rw [h]
theorem fst_all {ds : List Dd} (h : ∀ d ∈ ds, d.nm) : ∀ k, fstBad k (ds.map Dd.D) = none := by
  induction ds with
  | nil => exact fun _ => rfl
  | cons d ds ih =>
    intro k
    have e : dErr d.D = .none := by
      have q1 := deed_error_fn (h d List.mem_cons_self)
      have q2 := deed_error_any (x := d.D) (by
        show (PyData.str d.k.str :: d.ns.map .str).length ≤ 1000
        rw [List.length_cons, List.length_map]
        unfold Dd.ns
        split <;> simp)
      rw [q1] at q2
      have := (DRs.ok.inj q2).1
      exact (A.d.inj this).symm
    rw [List.map_cons, fst_ok e]
    exact ih (fun d' hd' => h d' (List.mem_cons_of_mem _ hd')) (k + 1)
end Tw

namespace Tw
open PySem PySem.Spec PyProof.Rows L2
/-! ### what is no script, any data -/
def scE : Dt := .tuple [.none, .str "script"]
/-- an answer about a value -/
inductive ScErr : Dt → Dt → Prop
  | no {x : Dt} (h : isTupD x = false) : ScErr x scE
  | many {xs : List Dt} (h : 12 < xs.length) : ScErr (.tuple xs) scE
  | bad {xs : List Dt} (h : ¬ 12 < xs.length) {k : Nat} {e : Dt} (hb : fstBad 0 xs = some (k, e)) : ScErr (.tuple xs) (.tuple [.int (k : Nat), e])
  | old {ds : List Dd} (h : ¬ 12 < ds.length) (hn : ∀ d ∈ ds, d.nm) (h4 : 4 < (oldN ds).length) : ScErr (.tuple (ds.map Dd.D)) (.tuple [.none, .str "old"])
  | new {ds : List Dd} (h : ¬ 12 < ds.length) (hn : ∀ d ∈ ds, d.nm) (h4 : ¬ 4 < (oldN ds).length) (h3 : 3 < (newN ds).length) : ScErr (.tuple (ds.map Dd.D)) (.tuple [.none, .str "new"])
  | ok {ds : List Dd} (h : ¬ 12 < ds.length) (hn : ∀ d ∈ ds, d.nm) (h4 : ¬ 4 < (oldN ds).length) (h3 : ¬ 3 < (newN ds).length) : ScErr (.tuple (ds.map Dd.D)) .none
def itm (x : Dt) : Prop := ∀ xs, x = .tuple xs → ∀ y ∈ xs, lenT y ≤ 100
end Tw

namespace Tw
open PySem PySem.Spec PyProof.Rows L2
/-! ### the law's judge of scripts -/
theorem Dd.D_inj {ds ds' : List Dd} (hm : ds.map Dd.D = ds'.map Dd.D) (hl : ds.length ≤ 12) (h1 : ∀ d ∈ ds, d.nm) (h2 : ∀ d ∈ ds', d.nm) : oldN ds' = oldN ds ∧ newN ds' = newN ds := by
  have hl' : ds'.length = ds.length := by have := congrArg List.length hm; rw [List.length_map, List.length_map] at this; exact this.symm
  have a := old_names_fn ds' (by omega) h2
  rw [← hm] at a
  have b := old_names_fn ds (by omega) h1
  rw [a] at b
  have b1 := (DRs.ok.inj b).1
  have a := new_names_fn ds' (by omega) h2
  rw [← hm] at a
  have b := new_names_fn ds (by omega) h1
  rw [a] at b
  have b2 := (DRs.ok.inj b).1
  have mi : ∀ {l k : List Str}, l.map PyData.str = k.map .str → l = k := fun {l k} h => by have := congrArg strsD h; rw [strsD_map, strsD_map] at this; exact Option.some.inj this
  exact ⟨mi (PyData.tuple.inj (A.d.inj b1)), mi (PyData.tuple.inj (A.d.inj b2))⟩
theorem ScErr.deeds {ds : List Dd} {e0 : Dt} (h : ScErr (.tuple (ds.map Dd.D)) e0) (h12 : ¬ 12 < ds.length) (hn : ∀ d ∈ ds, d.nm) : e0 = if 4 < (oldN ds).length then .tuple [.none, .str "old"] else if 3 < (newN ds).length then .tuple [.none, .str "new"] else .none := by
  generalize hx : PyData.tuple (ds.map Dd.D) = x at h
  cases h with
  | no h => cases hx; cases h
  | many h => cases hx; rw [List.length_map] at h; exact absurd h h12
  | bad _ hb => cases hx; rw [fst_all hn] at hb; cases hb
  | old _ hn' h4 =>
    obtain ⟨e1, e2⟩ := Dd.D_inj (PyData.tuple.inj hx) (by omega) hn hn'
    rw [e1] at h4
    rw [if_pos h4]
  | new _ hn' h4 h3 =>
    obtain ⟨e1, e2⟩ := Dd.D_inj (PyData.tuple.inj hx) (by omega) hn hn'
    rw [e1] at h4
    rw [e2] at h3
    rw [if_neg h4, if_pos h3]
  | ok _ hn' h4 h3 =>
    obtain ⟨e1, e2⟩ := Dd.D_inj (PyData.tuple.inj hx) (by omega) hn hn'
    rw [e1] at h4
    rw [e2] at h3
    rw [if_neg h4, if_neg h3]
end Tw

namespace Tw
open PySem PySem.Spec PyProof.Rows L2
/-! ### the table of a script -/
end Tw

namespace Tw
open PySem PySem.Spec PyProof.Rows L2
/-! ### the refusals of a table -/
end Tw

namespace Tw
open PySem PySem.Spec PyProof.Rows L2
end Tw

namespace Tw
open PySem PySem.Spec PyProof.Rows L2
end Tw

namespace Tw
open PySem PySem.Spec PyProof.Rows L2
end Tw

namespace Tw
open PySem PySem.Spec PyProof.Rows L2
/-! ### mixing data -/
end Tw

namespace Tw
open PySem PySem.Spec PyProof.Rows L2
/-! ### a deed on some names -/
end Tw

namespace Tw
open PySem PySem.Spec PyProof.Rows L2
end Tw

namespace Tw
open PySem PySem.Spec PyProof.Rows L2
end Tw

namespace Tw
open PySem PySem.Spec PyProof.Rows L2
/-! ### a script spoilt -/
end Tw

namespace Tw
open PySem PySem.Spec PyProof.Rows L2
end Tw

namespace Tw
open PySem PySem.Spec PyProof.Rows L2
/-! ### the answers can be shown -/
/-! ### parts of a law's turn that draw -/
end Tw

namespace Tw
open PySem PySem.Spec PyProof.Rows L2
/-! ### the children of a name, in a row -/
def K : List Str → List RI → Str → List Str
  | _, [], _ => []
  | S, .g _ :: r, n => K S r n
  | S, .e (true, m) :: r, n => if S.headD "" = n then m :: K (m :: S) r n else K (m :: S) r n
  | S, .e (false, _) :: r, n => K S.tail r n
theorem K_app : ∀ {a : List RI} {S T : List Str} {b : List RI} {n : Str}, run S a = some T → K S (a ++ b) n = K S a n ++ K T b n
  | [], S, T, b, n, h => by cases h; rfl
  | .g k :: a, S, T, b, n, h => K_app (a := a) (S := S) h
  | .e (true, m) :: a, S, T, b, n, h => by
    have ih := K_app (a := a) (S := m :: S) (b := b) (n := n) h
    show (if S.headD "" = n then m :: K (m :: S) (a ++ b) n else K (m :: S) (a ++ b) n) = (if S.headD "" = n then m :: K (m :: S) a n else K (m :: S) a n) ++ _
    rw [ih]
    split <;> rfl
  | .e (false, m) :: a, [], T, b, n, h => nomatch h
  | .e (false, m) :: a, s :: S, T, b, n, h => by
    have h' : (if s = m then run S a else none) = some T := h
    split at h'
    · exact K_app (a := a) (S := S) h'
    · cases h'
theorem K_bal {I b : List RI} {S : List Str} {n : Str} (h : Bal I) : K S (I ++ b) n = K S I n ++ K S b n := K_app (h S)
def hd1 (S : List Str) (n m : Str) : List Str := if S.headD "" = n then [m] else []
theorem K_node {I B : List RI} {S : List Str} {n m : Str} (h : Bal I) : K S (.e (true, m) :: (I ++ .e (false, m) :: B)) n = hd1 S n m ++ (K (m :: S) I n ++ K S B n) := by
  have e : K (m :: S) (I ++ .e (false, m) :: B) n = K (m :: S) I n ++ K S B n := K_bal h
  show (if S.headD "" = n then m :: K (m :: S) (I ++ .e (false, m) :: B) n else K (m :: S) (I ++ .e (false, m) :: B) n) = _
  rw [e]
  unfold hd1
  split <;> rfl
theorem K_none : ∀ {w : GW} {S : List Str} {n : Str}, S.headD "" ≠ n → RI.e (true, n) ∉ w.row → K S w.row n = []
  | .nil, _, _, _, _ => rfl
  | .gap k r, S, n, h, hn => K_none (w := r) h fun z => hn (List.mem_cons_of_mem _ z)
  | .cons m i r, S, n, h, hn => by
    have hm : m ≠ n := fun e => hn (by rw [e]; exact List.mem_cons_self)
    have h1 : RI.e (true, n) ∉ i.row := fun z => hn (List.mem_cons_of_mem _ (List.mem_append_left _ z))
    have h2 : RI.e (true, n) ∉ r.row := fun z => hn (List.mem_cons_of_mem _ (List.mem_append_right _ (List.mem_cons_of_mem _ z)))
    show K S (.e (true, m) :: (i.row ++ .e (false, m) :: r.row)) n = []
    rw [K_node i.bal, K_none (w := i) (S := m :: S) hm h1, K_none (w := r) h h2]
    unfold hd1
    rw [if_neg h]
    rfl
theorem Bal.K_none {I : List RI} {S : List Str} {n : Str} (b : Bal I) (h : S.headD "" ≠ n) (hn : RI.e (true, n) ∉ I) : K S I n = [] := by
  obtain ⟨w, rfl⟩ := gw_of (b [])
  exact Tw.K_none h hn
/-- a name that is not open has no children -/
theorem K_out : ∀ {a : List RI} {S : List Str} {n : Str}, n ≠ "" → n ∉ S → RI.e (true, n) ∉ a → K S a n = []
  | [], _, _, _, _, _ => rfl
  | .g k :: a, S, n, h0, h1, h2 => K_out (a := a) h0 h1 fun z => h2 (List.mem_cons_of_mem _ z)
  | .e (true, m) :: a, S, n, h0, h1, h2 => by
    have hm : n ≠ m := fun e => h2 (by rw [e]; exact List.mem_cons_self)
    show (if S.headD "" = n then m :: K (m :: S) a n else K (m :: S) a n) = []
    rw [K_out (a := a) h0 (fun z => (List.mem_cons.mp z).elim hm h1) fun z => h2 (List.mem_cons_of_mem _ z)]
    refine if_neg fun z => ?_
    cases S with
    | nil => exact h0 z.symm
    | cons s S => exact h1 (by rw [← z]; exact List.mem_cons_self)
  | .e (false, m) :: a, S, n, h0, h1, h2 => K_out (a := a) (S := S.tail) h0 (fun z => h1 (List.mem_of_mem_tail z)) fun z => h2 (List.mem_cons_of_mem _ z)
theorem K_congr : ∀ {w : GW} {S T : List Str} {n : Str}, (S.headD "" = n ↔ T.headD "" = n) → K S w.row n = K T w.row n
  | .nil, _, _, _, _ => rfl
  | .gap k r, S, T, n, h => K_congr (w := r) h
  | .cons m i r, S, T, n, h => by
    show K S (.e (true, m) :: (i.row ++ .e (false, m) :: r.row)) n = K T (.e (true, m) :: (i.row ++ .e (false, m) :: r.row)) n
    rw [K_node i.bal, K_node i.bal, K_congr (w := i) (S := m :: S) (T := m :: T) Iff.rfl, K_congr (w := r) h]
    unfold hd1
    by_cases c : S.headD "" = n
    · rw [if_pos c, if_pos (h.mp c)]
    · rw [if_neg c, if_neg fun z => c (h.mpr z)]
theorem Bal.K_congr {I : List RI} {S T : List Str} {n : Str} (b : Bal I) (h : S.headD "" = n ↔ T.headD "" = n) : K S I n = K T I n := by
  obtain ⟨w, rfl⟩ := gw_of (b [])
  exact Tw.K_congr h
theorem K_mem : ∀ {a : List RI} {S : List Str} {n m : Str}, m ∈ K S a n → RI.e (true, m) ∈ a
  | [], _, _, _, h => nomatch h
  | .g k :: a, S, n, m, h => List.mem_cons_of_mem _ (K_mem (a := a) h)
  | .e (true, x) :: a, S, n, m, h => by
    have h' : m ∈ (if S.headD "" = n then x :: K (x :: S) a n else K (x :: S) a n) := h
    split at h'
    · rcases List.mem_cons.mp h' with rfl | h'
      · exact List.mem_cons_self
      · exact List.mem_cons_of_mem _ (K_mem h')
    · exact List.mem_cons_of_mem _ (K_mem h')
  | .e (false, x) :: a, S, n, m, h => List.mem_cons_of_mem _ (K_mem (a := a) h)
theorem run_sub : ∀ {a : List RI} {S T : List Str} {n : Str}, run S a = some T → n ∈ T → n ∈ S ∨ RI.e (true, n) ∈ a
  | [], S, T, n, h, hn => by cases h; exact .inl hn
  | .g k :: a, S, T, n, h, hn => (run_sub (a := a) h hn).imp id (List.mem_cons_of_mem _)
  | .e (true, m) :: a, S, T, n, h, hn => by
    rcases run_sub (a := a) (S := m :: S) h hn with z | z
    · rcases List.mem_cons.mp z with rfl | z
      · exact .inr List.mem_cons_self
      · exact .inl z
    · exact .inr (List.mem_cons_of_mem _ z)
  | .e (false, m) :: a, [], T, n, h, hn => nomatch h
  | .e (false, m) :: a, s :: S, T, n, h, hn => by
    have h' : (if s = m then run S a else none) = some T := h
    split at h'
    · exact (run_sub (a := a) h' hn).imp (List.mem_cons_of_mem _) (List.mem_cons_of_mem _)
    · cases h'
theorem run_pre {a b : List RI} (h : Bal (a ++ b)) : ∃ T, run [] a = some T := by
  have e := h []
  rw [run_app] at e
  cases q : run [] a with
  | none => rw [q] at e; cases e
  | some T => exact ⟨T, rfl⟩
/-- no name is the empty text -/
def Nn (r : List RI) : Prop := ∀ n, Th r n → n ≠ ""
/-- the children around a block -/
structure Ar (r : List RI) (a : Str) (A I B : List RI) (T : List Str) : Prop where
  run : run [] A = some T
  par : T.headD "" = "" ∨ Th A (T.headD "")
  pn : ∀ c, RI.e (c, T.headD "") ∉ I
  pa : T.headD "" ≠ a
  at1 : K [] r (T.headD "") = K [] A (T.headD "") ++ a :: K T B (T.headD "")
  at2 : K [] (A ++ B) (T.headD "") = K [] A (T.headD "") ++ K T B (T.headD "")
  na : a ∉ K [] A (T.headD "")
  nb : a ∉ K T B (T.headD "")
  oth : ∀ n, n ≠ T.headD "" → (n = "" ∨ Th A n ∨ Th B n) → K [] r n = K [] (A ++ B) n
  inn : ∀ n, n = a ∨ Th I n → K [] r n = K [a] I n
theorem Sp.dis {r A I B : List RI} {a : Str} (s : Sp r a A I B) (o : Ok r) {n : Str} (h : Th I n) : n ≠ a ∧ ∀ c, RI.e (c, n) ∉ A ∧ RI.e (c, n) ∉ B := by
  have bp := s.bal.pair n
  have nd := o.nd
  rw [s.eq, ends_app] at nd
  have e : ends (.e (true, a) :: (I ++ .e (false, a) :: B)) = (true, a) :: (ends I ++ (false, a) :: ends B) := by
    show (true, a) :: ends (I ++ .e (false, a) :: B) = _
    rw [ends_app]
    rfl
  rw [e] at nd
  have n1 := List.nodup_append.mp nd
  have n2 := List.nodup_append.mp (List.nodup_cons.mp n1.2.1).2
  have inI : ∀ c, (c, n) ∈ ends I := fun c => by
    cases c
    · exact mem_ends.mpr (bp.mp h)
    · exact mem_ends.mpr h
  refine ⟨fun z => (s.out true).2.1 (by rw [← z]; exact h), fun c => ⟨fun z => ?_, fun z => ?_⟩⟩
  · exact n1.2.2 _ (mem_ends.mpr z) _ (List.mem_cons_of_mem _ (List.mem_append_left _ (inI c))) rfl
  · exact n2.2.2 _ (inI c) _ (List.mem_cons_of_mem _ (mem_ends.mpr z)) rfl
theorem Sp.ar {r A I B : List RI} {a : Str} (s : Sp r a A I B) (o : Ok r) (nn : Nn r) : ∃ T, Ar r a A I B T := by
  have bl := o.bal
  rw [s.eq] at bl
  obtain ⟨T, hT⟩ := run_pre bl
  have a0 : a ≠ "" := nn a (by show RI.e (true, a) ∈ r; rw [s.eq]; exact List.mem_append_right _ List.mem_cons_self)
  have oI : ∀ {n : Str}, Th I n → n ≠ "" := fun {n} h => nn n (by show RI.e (true, n) ∈ r; rw [s.eq]; exact List.mem_append_right _ (List.mem_cons_of_mem _ (List.mem_append_left _ h)))
  have par : T.headD "" = "" ∨ Th A (T.headD "") := by
    cases T with
    | nil => exact .inl rfl
    | cons t T => exact .inr ((run_sub hT List.mem_cons_self).resolve_left fun h => nomatch h)
  have pa : T.headD "" ≠ a := fun e => by
    rcases par with h | h
    · exact a0 (e.symm.trans h)
    · rw [e] at h
      exact (s.out true).1 h
  have pn1 : ¬ Th I (T.headD "") := fun z => by
    rcases par with h | h
    · exact oI z h
    · exact ((s.dis o z).2 true).1 h
  have pn : ∀ c, RI.e (c, T.headD "") ∉ I := fun c z => by
    cases c
    · exact pn1 ((s.bal.pair _).mpr z)
    · exact pn1 z
  have eq : ∀ n, K [] r n = K [] A n ++ (hd1 T n a ++ (K (a :: T) I n ++ K T B n)) := fun n => by
    conv => lhs; rw [s.eq]
    rw [K_app hT, K_node s.bal]
  have eq2 : ∀ n, K [] (A ++ B) n = K [] A n ++ K T B n := fun n => K_app hT
  have kI : ∀ n, n ≠ a → ¬ Th I n → K (a :: T) I n = [] := fun n h1 h2 => s.bal.K_none (fun z => h1 z.symm) h2
  refine ⟨T, hT, par, pn, pa, ?_, eq2 _, fun z => (s.out true).1 (K_mem z), fun z => (s.out true).2.2 (K_mem z), fun n h1 h2 => ?_, fun n h => ?_⟩
  · rw [eq, kI _ pa pn1]
    unfold hd1
    rw [if_pos rfl]
    rfl
  · have nI : n ≠ a ∧ ¬ Th I n := by
      refine ⟨fun e => ?_, fun z => ?_⟩
      · rw [e] at h2
        rcases h2 with h2 | h2 | h2
        · exact a0 h2
        · exact (s.out true).1 h2
        · exact (s.out true).2.2 h2
      · rcases h2 with h2 | h2 | h2
        · exact oI z h2
        · exact ((s.dis o z).2 true).1 h2
        · exact ((s.dis o z).2 true).2 h2
    rw [eq, eq2, kI n nI.1 nI.2]
    unfold hd1
    rw [if_neg (fun z => h1 z.symm)]
    rfl
  · have h0 : n ≠ "" := by
      rcases h with h | h
      · rw [h]; exact a0
      · exact oI h
    have hA : RI.e (true, n) ∉ A := by
      rcases h with h | h
      · rw [h]; exact (s.out true).1
      · exact ((s.dis o h).2 true).1
    have hB : RI.e (true, n) ∉ B := by
      rcases h with h | h
      · rw [h]; exact (s.out true).2.2
      · exact ((s.dis o h).2 true).2
    have hTn : n ∉ T := fun z => (run_sub hT z).elim (fun h => nomatch h) hA
    have hh : T.headD "" ≠ n := fun z => by
      cases T with
      | nil => exact h0 z.symm
      | cons t T => exact hTn (by rw [← z]; exact List.mem_cons_self)
    rw [eq, K_out (S := []) h0 List.not_mem_nil hA, K_out h0 hTn hB]
    unfold hd1
    rw [if_neg hh, List.nil_append, List.nil_append, List.append_nil]
    exact s.bal.K_congr Iff.rfl
end Tw

namespace Tw
open PySem PySem.Spec PyProof.Rows L2
/-! ### a dict of lists, by what stands at its keys -/
abbrev Kv := List (Key × List Dt)
structure KF (kvs : Kv) (P : Str → Prop) (f : Str → List Str) : Prop where
  ks : ∀ q ∈ kvs, ∃ k : Str, q.1 = .inr k ∧ P k
  lk : ∀ k, P k → lkD kvs (.inr k) = some ((f k).map .str)
  len : kvs.length ≤ 10000
  sm : ∀ k, P k → k.length ≤ 1000
  nd : (kvs.map (·.1)).Nodup
section
variable {kvs : Kv} {P P' : Str → Prop} {f f' : Str → List Str}
theorem KF.congr (h : KF kvs P f) (hP : ∀ k, P' k ↔ P k) (hf : ∀ k, P' k → f' k = f k) : KF kvs P' f' :=
  ⟨fun q hq => by obtain ⟨k, e, hk⟩ := h.ks q hq; exact ⟨k, e, (hP k).mpr hk⟩, fun k hk => by rw [hf k hk]; exact h.lk k ((hP k).mp hk), h.len, fun k hk => h.sm k ((hP k).mp hk), h.nd⟩
theorem KF.has (h : KF kvs P f) (k : Str) : (lkD kvs (.inr k)).isSome = true ↔ P k := by
  constructor
  · intro hs
    cases e : lkD kvs (.inr k) with
    | none => rw [e] at hs; cases hs
    | some x =>
      obtain ⟨q, hq, e2⟩ := lkD_mem e
      obtain ⟨j, e3, hj⟩ := h.ks q hq
      rw [e2] at e3
      cases e3
      exact hj
  · intro hk
    rw [h.lk k hk]
    rfl
theorem KF.no (h : KF kvs P f) {k : Str} (hk : ¬ P k) : lkD kvs (.inr k) = none := by
  cases e : lkD kvs (.inr k) with
  | none => rfl
  | some x => exact absurd ((h.has k).mp (by rw [e]; rfl)) hk
open Classical in
noncomputable def fset (f : Str → List Str) (k : Str) (ys : List Str) : Str → List Str := fun j => if j = k then ys else f j
theorem fset_at {k : Str} {ys : List Str} : fset f k ys k = ys := if_pos rfl
theorem fset_ne {k j : Str} {ys : List Str} (h : j ≠ k) : fset f k ys j = f j := if_neg h
theorem setF_fst {α : Type} (k : Key) (y : α) : ∀ kvs : List (Key × α), (setF kvs k y).map (·.1) = kvs.map (·.1)
  | [] => rfl
  | (a, x) :: r => by
    unfold setF
    split
    · rfl
    · rw [List.map_cons, setF_fst k y r]; rfl
theorem putD_nd {α : Type} {kvs : List (Key × α)} {k : Key} {v : α} (h : (kvs.map (·.1)).Nodup) : ((putD kvs k v).map (·.1)).Nodup := by
  rw [keys_put]
  split
  · exact h
  · rename_i c
    rw [List.nodup_append]
    refine ⟨h, List.pairwise_singleton _ _, fun a ha b hb e => c ?_⟩
    rw [List.mem_singleton.mp hb] at e
    obtain ⟨q, hq, eq⟩ := List.mem_map.mp ha
    exact List.any_eq_true.mpr ⟨q, hq, decide_eq_true (eq.trans e)⟩
theorem KF.set (h : KF kvs P f) {k : Str} (hk : P k) (ys : List Str) : KF (setF kvs (.inr k) (ys.map .str)) P (fset f k ys) := by
  refine ⟨fun q hq => ?_, fun j hj => ?_, by rw [setF_len]; exact h.len, h.sm, by rw [setF_fst]; exact h.nd⟩
  · obtain ⟨p, hp, e⟩ := setF_keys hq
    rw [← e]
    exact h.ks p hp
  · rw [lkD_setF]
    by_cases c : j = k
    · subst c
      rw [if_pos rfl, h.lk j hj, fset_at]
      rfl
    · rw [if_neg (fun e => c (by injection e)), fset_ne c]
      exact h.lk j hj
theorem KF.put (h : KF kvs P f) (hl : kvs.length < 10000) {k : Str} (hs : k.length ≤ 1000) (ys : List Str) : KF (putD kvs (.inr k) (ys.map .str)) (fun j => j = k ∨ P j) (fset f k ys) := by
  refine ⟨fun q hq => ?_, fun j hj => ?_, by have := (putD_len (kvs := kvs) (k := .inr k) (v := ys.map PyData.str)).1; omega, fun j hj => ?_, putD_nd h.nd⟩
  · rcases putD_keys hq with e | ⟨p, hp, e⟩
    · exact ⟨k, e, .inl rfl⟩
    · obtain ⟨j, e2, hj⟩ := h.ks p hp
      exact ⟨j, by rw [← e, e2], .inr hj⟩
  · rw [lkD_put]
    by_cases c : j = k
    · subst c
      rw [if_pos rfl, fset_at]
    · rw [if_neg (fun e => c (by injection e)), fset_ne c]
      exact h.lk j (hj.resolve_left c)
  · rcases hj with rfl | hj
    · exact hs
    · exact h.sm j hj
theorem lkD_drop {α : Type} (k k' : Key) : ∀ kvs : List (Key × α), lkD (dropD kvs k) k' = if k' = k then none else lkD kvs k'
  | [] => by simp [dropD, lkD_nil]
  | (a, x) :: r => by
    have ih := lkD_drop k k' r
    unfold dropD at ih ⊢
    rw [List.filter_cons]
    by_cases c : a = k
    · rw [if_neg (by simp [c]), ih, lkD_cons]
      by_cases c2 : k' = k
      · rw [if_pos c2, if_pos c2]
      · rw [if_neg c2, if_neg c2, if_neg (fun e => c2 (by rw [← e, c]))]
    · rw [if_pos (by simp [c]), lkD_cons, lkD_cons, ih]
      by_cases c2 : k' = k
      · rw [if_pos c2, if_neg (fun e => c (by rw [e, c2])), if_pos c2]
      · rw [if_neg c2, if_neg c2]
theorem KF.drop (h : KF kvs P f) {k : Str} : KF (dropD kvs (.inr k)) (fun j => P j ∧ j ≠ k) f := by
  refine ⟨fun q hq => ?_, fun j hj => ?_, Nat.le_trans (List.length_filter_le _ _) h.len, fun j hj => h.sm j hj.1, h.nd.sublist (List.filter_sublist.map _)⟩
  · obtain ⟨hq1, hq2⟩ := List.mem_filter.mp hq
    obtain ⟨j, e, hj⟩ := h.ks q hq1
    refine ⟨j, e, hj, fun z => ?_⟩
    rw [e, z] at hq2
    simp at hq2
  · rw [lkD_drop, if_neg (fun e => hj.2 (by injection e))]
    exact h.lk j hj.1
end
/-! ### lists in a dict, changed in place -/
end Tw

namespace Tw
open PySem PySem.Spec PyProof.Rows L2
/-! ### moves, by the children -/
def PR (r : List RI) : Str → Prop := fun k => k = "" ∨ Th r k
theorem Sp.th {r A I B : List RI} {a : Str} (s : Sp r a A I B) (n : Str) : Th r n ↔ (n = a ∨ Th I n) ∨ Th (A ++ B) n := by
  show RI.e (true, n) ∈ r ↔ (n = a ∨ RI.e (true, n) ∈ I) ∨ RI.e (true, n) ∈ A ++ B
  rw [s.eq]
  simp only [List.mem_append, List.mem_cons, RI.e.injEq, Prod.mk.injEq, true_and, Bool.true_eq_false, false_and, false_or]
  constructor
  · rintro (h | h | h | h)
    · exact .inr (.inl h)
    · exact .inl (.inl h)
    · exact .inl (.inr h)
    · exact .inr (.inr h)
  · rintro ((h | h) | h | h)
    · exact .inr (.inl h)
    · exact .inr (.inr (.inl h))
    · exact .inl h
    · exact .inr (.inr (.inr h))
open Classical in
/-- the children while a block is out -/
noncomputable def fr (a : Str) (I R : List RI) : Str → List Str := fun n => if n = a ∨ Th I n then K [a] I n else K [] R n
theorem fr_in {a : Str} {I R : List RI} {n : Str} (h : n = a ∨ Th I n) : fr a I R n = K [a] I n := if_pos h
theorem fr_out {a : Str} {I R : List RI} {n : Str} (h : ¬ (n = a ∨ Th I n)) : fr a I R n = K [] R n := if_neg h
section
variable {kvs : Kv} {r r' A I B A' B' : List RI} {a : Str} {T T' : List Str}
theorem Ar.pI {r A I B : List RI} (h : Ar r a A I B T) : ¬ (T.headD "" = a ∨ Th I (T.headD "")) := fun z => z.elim h.pa (h.pn true)
theorem Ar.pR {r A I B : List RI} (h : Ar r a A I B T) (s : Sp r a A I B) : PR r (T.headD "") := by
  rcases h.par with z | z
  · exact .inl z
  · exact .inr ((s.th _).mpr (.inr (List.mem_append_left _ z)))
theorem KF.out (h : KF kvs (PR r) (K [] r)) (s : Sp r a A I B) (ar : Ar r a A I B T) : KF (setF kvs (.inr (T.headD "")) ((K [] A (T.headD "") ++ K T B (T.headD "")).map .str)) (PR r) (fr a I (A ++ B)) := by
  refine (h.set (ar.pR s) _).congr (fun _ => Iff.rfl) fun k hk => ?_
  by_cases c : k = T.headD ""
  · subst c
    rw [fset_at, fr_out ar.pI, ar.at2]
  · rw [fset_ne c]
    by_cases d : k = a ∨ Th I k
    · rw [fr_in d, ar.inn k d]
    · rw [fr_out d]
      refine (ar.oth k c ?_).symm
      rcases hk with hk | hk
      · exact .inl hk
      · exact .inr ((((s.th k).mp hk).resolve_left d) |> fun z => (List.mem_append.mp z))
theorem KF.inn (h : KF kvs (PR r) (fr a I (A ++ B))) (hR : A ++ B = A' ++ B') (s : Sp r a A I B) (s' : Sp r' a A' I B') (ar : Ar r' a A' I B' T') :
    lkD kvs (.inr (T'.headD "")) = some ((K [] A' (T'.headD "") ++ K T' B' (T'.headD "")).map .str) ∧ KF (setF kvs (.inr (T'.headD "")) ((K [] A' (T'.headD "") ++ a :: K T' B' (T'.headD "")).map .str)) (PR r') (K [] r') := by
  have hP : ∀ k, PR r' k ↔ PR r k := fun k => by
    unfold PR
    rw [s.th, s'.th, hR]
  have hp := (hP _).mp (ar.pR s')
  have e0 := h.lk _ hp
  rw [fr_out ar.pI, hR, ar.at2] at e0
  refine ⟨e0, (h.set hp _).congr hP fun k hk => ?_⟩
  by_cases c : k = T'.headD ""
  · subst c
    rw [fset_at, ar.at1]
  · rw [fset_ne c]
    by_cases d : k = a ∨ Th I k
    · rw [fr_in d, ar.inn k d]
    · rw [fr_out d, hR]
      refine ar.oth k c ?_
      rcases hk with hk | hk
      · exact .inl hk
      · exact .inr ((((s'.th k).mp hk).resolve_left d) |> fun z => (List.mem_append.mp z))
end
end Tw

namespace Tw
open PySem PySem.Spec PyProof.Rows L2
end Tw

namespace Tw
open PySem PySem.Spec PyProof.Rows L2
/-! ### the children behind the other deeds -/
section
variable {r A I B : List RI} {a : Str} {T : List Str}
theorem Sp.parts {r A I B : List RI} {a : Str} (s : Sp r a A I B) {n : Str} (h : PR r n) (hn : ¬ (n = a ∨ Th I n)) : n = "" ∨ Th A n ∨ Th B n := by
  rcases h with h | h
  · exact .inl h
  · exact .inr ((((s.th n).mp h).resolve_left hn) |> fun z => List.mem_append.mp z)
end
/-! ### names exchanged -/
end Tw

namespace Tw
open PySem PySem.Spec PyProof.Rows L2
end Tw

namespace Tw
open PySem PySem.Spec PyProof.Rows L2
/-! ### how many keys there are -/
def bg : List RI → List Str
  | [] => []
  | .e (true, m) :: r => m :: bg r
  | _ :: r => bg r
/-! ### steps that change the dict -/
end Tw

namespace Tw
open PySem PySem.Spec PyProof.Rows L2
/-! ### the deeds that are no moves -/
/-! the nodes of a stretch -/
def GW.tp : GW → List (Str × GW)
  | .nil => []
  | .gap _ r => r.tp
  | .cons n i r => (n, i) :: r.tp
def pn (l : List (Str × GW)) : List Str := l.flatMap fun x => x.1 :: bg x.2.row
end Tw

namespace Tw
open PySem PySem.Spec PyProof.Rows L2
end Tw

namespace Tw
open PySem PySem.Spec PyProof.Rows L2
/-! ### the dict of a wood's children -/
theorem Wd.nn {w : Wd} (hnm : ∀ z ∈ w.names, IsNm z) : Nn w.rows := fun n hn => nm_ne (hnm n (Wd.th.mp hn))
/-! ### the word with which a deed stops -/
end Tw

namespace Tw
open PySem PySem.Spec PyProof.Rows L2
/-! ### a script done with the dict of children -/
end Tw

namespace Tw
open PySem PySem.Spec PyProof.Rows L2
/-! ### where a script stops -/
/-! ### the fate of a script -/
end Tw

namespace Tw
open PySem PySem.Spec PyProof.Rows L2
/-! ### what is told of stops can be shown -/
/-! ### what the law collects -/
def valD : DRs → Dt
  | .ok (.d y) _ => y
  | _ => .none
end Tw

namespace Tw
open PySem PySem.Spec PyProof.Rows L2
/-! ### the new names of a drawn script -/
/-! ### old names of scripts and of wishes -/
/-! ### the rows for a script and names -/
structure ScOk (ds : List Dd) : Prop where
  len : ds.length ≤ 12
  nm : ∀ d ∈ ds, d.nm
  old : (oldN ds).length ≤ 4
  new : (newN ds).length ≤ 3
end Tw

namespace Tw
open PySem PySem.Spec PyProof.Rows L2
/-! ### what is a wood -/
end Tw

namespace Tw
open PySem PySem.Spec PyProof.Rows L2
/-! ### whether a wood fits, how many nodes it has -/
/-! ### the names in a wish -/
end Tw

namespace Tw
open PySem PySem.Spec PyProof.Rows L2
/-! ### a wish is so, the deeds do, another wish is not so behind them -/
end Tw

namespace Tw
open PySem PySem.Spec PyProof.Rows L2
/-! ### sure, keeps and where of any script -/
structure WsN (w : Ws) : Prop where
  dp : w.dp ≤ 5
  ct : w.ct ≤ 12
  nm : w.nm
end Tw

namespace Tw
open PySem PySem.Spec PyProof.Rows L2
/-! ### a comprehension over things that are told by data -/
/-! ### a wish judged by the law -/
end Tw

namespace Tw
open PySem PySem.Spec PyProof.Rows L2
/-! ### what a drawn script is -/
/-! ### rows of the law and the woods of these -/
end Tw

namespace Tw
open PySem PySem.Spec PyProof.Rows L2
/-! ### a wish behind deeds, a wish that is lost -/
/-! ### rows can be shown -/
end Tw

namespace Tw
open PySem PySem.Spec PyProof.Rows L2
/-! ### rows with gaps filled: deeds and fillings go in either order -/
def fillI (G : Nat → List RI) : List RI → List RI
  | [] => []
  | .e p :: r => .e p :: fillI G r
  | .g k :: r => G k ++ fillI G r
def pos (G : Nat → List RI) (r : List RI) (k : Nat) : Nat := (fillI G (r.take k)).length
end Tw

namespace Tw
open PySem PySem.Spec PyProof.Rows L2
/-! ### sayings by the row around a node -/
/-! ### a saying hangs on the named nodes and one more -/
end Tw

namespace Tw
open PySem PySem.Spec PyProof.Rows L2
/-! ### what is told of a wood is told of a small one -/
/-! a row out of its named ends and its gaps -/
/-! other names for one node -/
end Tw

namespace Tw
open PySem PySem.Spec PyProof.Rows L2
/-! ### fillings -/
theorem Evs.two {m1 m2 : ME} {env : Env} {x y : Dt} (h1 : Ev m1 env x) (h2 : Ev m2 env y) : Evs (mCons m1 (mCons m2 mNil)) env [x, y] := Evs.cons h1 (Evs.cons h2 Evs.nil)
end Tw

namespace Tw
open PySem PySem.Spec PyProof.Rows L2
/-! ### rows with gaps, filled -/
/-! ### a fresh name -/
end Tw

namespace Tw
open PySem PySem.Spec PyProof.Rows L2
/-! ### the names in a script -/
/-! ### what the fillings of the skeletons are -/
end Tw

namespace Tw
open PySem PySem.Spec PyProof.Rows L2
/-! ### what is shown: a dict with truths as keys -/
def bk (b : Bool) : Leaf := .num (if b = true then 1 else 0)
end Tw

namespace Tw
open PySem PySem.Spec PyProof.Rows L2
/-! ### what is told -/
end Tw

namespace Tw
open PySem PySem.Spec PyProof.Rows L2
/-! ### the law's questions about what is told -/
end Tw

namespace Tw
open PySem PySem.Spec PyProof.Rows L2
/-! ### what a saying says, as a wish -/
end Tw

namespace Tw
open PySem PySem.Spec PyProof.Rows L2
/-! ### woods whose names may be any short texts (printed by zcopy.py) -/
end Tw

namespace Tw
open PySem PySem.Spec PyProof.Rows L2
/-! ### the repr of small woods -/
end Tw

namespace Tw
open PySem PySem.Spec PyProof.Rows L2
/-! ### the law's answers over all small woods -/
end Tw

namespace Tw
open PySem PySem.Spec PyProof.Rows L2
end Tw

namespace Tw
open PySem PySem.Spec PyProof.Rows L2
/-! ### what is told, computed over the small woods -/
end Tw

namespace Tw
open PySem PySem.Spec PyProof.Rows L2
/-! ### the table of told (printed by tab58.py) -/
end Tw

namespace Tw
open PySem PySem.Spec PyProof.Rows L2
/-! ### other names for a script and a saying -/
end Tw

namespace Tw
open PySem PySem.Spec PyProof.Rows L2
/-! ### what is told hangs on the small woods -/
def lets : List Str := ["a", "b", "c", "n", "m"]
end Tw

namespace Tw
open PySem PySem.Spec PyProof.Rows L2
/-! ### deeds written as a text -/
end Tw

namespace Tw
open PySem PySem.Spec PyProof.Rows L2
end Tw

namespace Tw
open PySem PySem.Spec PyProof.Rows L2
end Tw

namespace Tw
open PySem PySem.Spec PyProof.Rows L2
end Tw

namespace Tw
open PySem PySem.Spec PyProof.Rows L2
/-! ### the numbers of gaps in a row, and where they stand -/
/-- behind how many ends a gap stands -/
def slot : List RI → Nat → Option Nat
  | [], _ => none
  | .e _ :: r, g => (slot r g).map (· + 1)
  | .g k :: r, g => if k = g then some 0 else slot r g
/-! ### the first place at which two lists are unlike -/
/-! ### what parts two results -/
/-! ### leaves in some gaps -/
end Tw

namespace Tw
open PySem PySem.Spec PyProof.Rows L2
/-! ### the row of a wood whose names may be any short texts -/
/-! ### leaves in all gaps -/
def dgL : List Str := ["0", "1", "2", "3", "4", "5", "6", "7", "8"]
def dg (k : Nat) : Str := dgL.getD k "0"
/-! filling by what is balanced -/
end Tw

namespace Tw
open PySem PySem.Spec PyProof.Rows L2
/-! ### the wood with a leaf in each gap -/
end Tw

namespace Tw
open PySem PySem.Spec PyProof.Rows L2
theorem Ev.m0 {g : Str → Dt} {m : ME} {env : Env} {s : Str} (h : Ev m env (.str s)) : Ev (mM0 g m) env (g s) := fun te => by
  show (m env te).bind _ = _
  rw [h te, zq00]
end Tw

namespace Tw
open PySem PySem.Spec PyProof.Rows L2
/-! ### behind how many ends each gap stands -/
end Tw

namespace Tw
open PySem PySem.Spec PyProof.Rows L2
/-! ### the ends of a row with gaps -/
theorem RI.kind (a : RI) : (∃ s, a.D = .str s) ∨ ∃ i, a.D = .int i := by
  cases a with
  | e p => exact .inl ⟨_, rfl⟩
  | g k => exact .inr ⟨_, rfl⟩
/-! ### when lists of ends and of places are equal -/
/-! ### how many leaves part two results, as the law asks it -/
end Tw

namespace Tw
open PySem PySem.Spec PyProof.Rows L2
/-! ### the gaps that part two results, as the program tells them -/
end Tw

namespace Tw
open PySem PySem.Spec PyProof.Rows L2
/-! ### fresh names, some -/
end Tw

namespace Tw
open PySem PySem.Spec PyProof.Rows L2
/-! ### the wood of a row with leaves in some gaps -/
/-! ### the program's wood_with -/
end Tw

namespace Tw
open PySem PySem.Spec PyProof.Rows L2
/-! ### a least wood that parts two rows of deeds -/
end Tw

namespace Tw
open PySem PySem.Spec PyProof.Rows L2
/-! ### whether two rows of deeds do unlike on a wood, as the law asks it -/
/-! ### what a leaf wood shows -/
end Tw

namespace Tw
open PySem PySem.Spec PyProof.Rows L2
/-! ### the old names of two scripts together -/
/-! ### alike, within, commutes -/
end Tw

namespace Tw
open PySem PySem.Spec PyProof.Rows L2
/-! ### the menu's names: not both n and nn -/
end Tw

namespace Tw
open PySem PySem.Spec PyProof.Rows L2
/-! ### a script that often does alike -/
end Tw

namespace Tw
open PySem PySem.Spec PyProof.Rows L2
/-! ### how few leaves part two scripts, as the law asks it -/
end Tw

namespace Tw
open PySem PySem.Spec PyProof.Rows L2
/-! ### what is told is right -/
end Tw

namespace Tw
open PySem PySem.Spec PyProof.Rows L2
/-! ### calls with lists of one's own among the arguments -/
/-! ### how few leaves part results, told over a list of them -/
/-! ### whether what is told is due -/
end Tw

namespace Tw
open PySem PySem.Spec PyProof.Rows L2
/-! ### within is right -/
end Tw

namespace Tw
open PySem PySem.Spec PyProof.Rows L2
/-! ### any wood over some names is a filling of its skeleton -/
/-! ### the test -/
end Tw

namespace Tw
open PySem PySem.Spec PyProof.Rows L2
/-! ### one node more, put in anywhere -/
def H2 (i j k : Nat) : List RI := (if k = i then [.g 0] else []) ++ (if k = j then [.g 1] else [])
end Tw

namespace Tw
open PySem PySem.Spec PyProof.Rows L2
/-! ### a script that often does alike: few names -/
end Tw

namespace Tw
open PySem PySem.Spec PyProof.Rows L2
/-! ### many rows -/
/-! ### the rows of small woods -/
end Tw

namespace Tw
open PySem PySem.Spec PyProof.Rows L2
end Tw

namespace Tw
open PySem PySem.Spec PyProof.Rows L2
/-! ### alike with its Clash -/
end Tw

namespace Tw
open PySem PySem.Spec PyProof.Rows L2
/-! ### lean, and the law's own -/
end Tw

namespace Tw
open PySem PySem.Spec PyProof.Rows L2
end Tw

namespace Tw
open PySem PySem.Spec PyProof.Rows L2
/-! ### which names a drawn script makes -/
end Tw

namespace Tw
open PySem PySem.Spec PyProof.Rows L2
/-! ### scripts of two deeds on four names -/
end Tw

namespace Tw
open PySem PySem.Spec PyProof.Rows L2
/-! ### plain facts of such scripts -/
/-! a row on which two deeds are done -/
end Tw

namespace Tw
open PySem PySem.Spec PyProof.Rows L2
/-! ### what the law says of the stops of two deeds -/
end Tw

namespace Tw
open PySem PySem.Spec PyProof.Rows L2
/-! ### alike and within of such scripts -/
end Tw

namespace Tw
open PySem PySem.Spec PyProof.Rows L2
/-! ### lists that a slot owns, made longer -/
theorem pl_nest {env : Env} (h : plB env = true) {te : List A} {i : Nat} (ht : te.any (isNest i) = false) : anyC (isNest i) env te = false := by
  unfold anyC
  rw [ht, Bool.or_false]
  exact plB_nest h i
/-! ### all deeds on some names -/
end Tw

namespace Tw
open PySem PySem.Spec PyProof.Rows L2
/-! ### all scripts of at most two deeds -/
/-! ### shortest -/
end Tw

namespace Tw
open PySem PySem.Spec PyProof.Rows L2
/-! ### calls that draw and are given an own list -/
/-! ### the candidates -/
end Tw

namespace Tw
open PySem PySem.Spec PyProof.Rows L2
/-! ### the names of deeds -/
/-! ### is_short -/
end Tw

namespace Tw
open PySem PySem.Spec PyProof.Rows L2
/-! ### the table of lean scripts (printed by tab62.py) -/
end Tw

namespace Tw
open PySem PySem.Spec PyProof.Rows L2
/-! ### lean, computed and renamed -/
end Tw

namespace Tw
open PySem PySem.Spec PyProof.Rows L2
/-! ### what is told both ways round -/
/-! ### names of scripts behind one another -/
/-! ### what alike none says of woods -/
/-! ### a tail behind both -/
/-! ### three scripts -/
namespace Wd43
def app : Wd → Wd → Wd
  | .nil, b => b
  | .cons n i r, b => .cons n i (app r b)
theorem toks (b : Wd) : ∀ a : Wd, (app a b).toks = a.toks ++ b.toks
  | .nil => rfl
  | .cons n i r => by
    show (true, n) :: (i.toks ++ (false, n) :: (app r b).toks) = (true, n) :: (i.toks ++ (false, n) :: r.toks) ++ b.toks
    rw [toks b r]
    simp
theorem names (b : Wd) : ∀ a : Wd, (app a b).names = a.names ++ b.names
  | .nil => rfl
  | .cons n i r => by
    show n :: (i.names ++ (app r b).names) = n :: (i.names ++ r.names) ++ b.names
    rw [names b r]
    simp
end Wd43
end Tw

namespace Tw
open PySem PySem.Spec PyProof.Rows L2
/-! ### what is told of two scripts fits together -/
end Tw

namespace Tw
open PySem PySem.Spec PyProof.Rows L2
/-! ### tables told -/
/-! ### they can be shown -/
end Tw

namespace Tw
open PySem PySem.Spec PyProof.Rows L2
/-! ### plans for all woods -/
end Tw

namespace Tw
open PySem PySem.Spec PyProof.Rows L2
/-! ### the law's judges of plans -/
/-! ### the same of a tuple of names -/
end Tw

namespace Tw
open PySem PySem.Spec PyProof.Rows L2
/-! ### a wish that is aimed at -/
end Tw

namespace Tw
open PySem PySem.Spec PyProof.Rows L2
/-! ### calls of list methods whose argument draws -/
end Tw

namespace Tw
open PySem PySem.Spec PyProof.Rows L2
/-! ### is_plan -/
/-! ### the deeds lead on all these woods -/
/-! ### for the law -/
end Tw

namespace Tw
open PySem PySem.Spec PyProof.Rows L2
/-! ### a wood is its skeleton with its gaps filled -/
/-! ### looking up a row in a dict of pairs -/
/-! ### by_table -/
end Tw

namespace Tw
open PySem PySem.Spec PyProof.Rows L2
/-! ### what a table does to a wood, as the law tells it -/
end Tw

namespace Tw
open PySem PySem.Spec PyProof.Rows L2
/-! ### the table of a script for further names -/
end Tw

namespace Tw
open PySem PySem.Spec PyProof.Rows L2
/-! ### results that can be shown -/
/-! ### the tables of two scripts, one behind the other -/
end Tw

namespace Tw
open PySem PySem.Spec PyProof.Rows L2
/-! ### woods that are drawn from old names and others -/
end Tw

namespace Tw
open PySem PySem.Spec PyProof.Rows L2
/-! ### comprehensions of pairs -/
/-! ### values that are shown -/
/-! ### the results of the tables -/
/-! ### gaps without names -/
end Tw

namespace Tw
open PySem PySem.Spec PyProof.Rows L2
/-! ### turns of names and themselves ahead -/
end Tw

namespace Tw
open PySem PySem.Spec PyProof.Rows L2
/-! ### what a script loses: the plain part -/
end Tw

namespace Tw
open PySem PySem.Spec PyProof.Rows L2
/-! ### the helpers of loses -/
end Tw

namespace Tw
open PySem PySem.Spec PyProof.Rows L2
/-! ### pairs of woods that a script makes one -/
/-! ### loses -/
end Tw

namespace Tw
open PySem PySem.Spec PyProof.Rows L2
end Tw

namespace Tw
open PySem PySem.Spec PyProof.Rows L2
/-! ### the law's question about what is told of a loss -/
end Tw

namespace Tw
open PySem PySem.Spec PyProof.Rows L2
/-! ### losses that are known -/
end Tw

namespace Tw
open PySem PySem.Spec PyProof.Rows L2
/-! ### functions that are handed the deck -/
/-! ### another wood of the same names -/
end Tw

namespace Tw
open PySem PySem.Spec PyProof.Rows L2
/-! ### a script that loses nothing -/
end Tw

namespace Tw
open PySem PySem.Spec PyProof.Rows L2
/-! ### a script that loses: with further deeds it loses too -/
end Tw

namespace Tw
open PySem PySem.Spec PyProof.Rows L2
/-! ### two old names exchanged ahead -/
end Tw

namespace Tw
open PySem PySem.Spec PyProof.Rows L2
/-! ### the repr of a wood tells the wood -/
open PySem.Builtin.Str
end Tw

namespace Tw
open PySem PySem.Spec PyProof.Rows L2
/-! ### the least number of nodes of two woods that are made one -/
/-! ### the state of the law's search -/
def rsD (ds : List Dd) (t : List Tok) : (Nat × Str) ⊕ List RI := doneAll 0 (t.map .e) ds
def Same (ds : List Dd) (t t' : List Tok) : Prop := ∃ r, rsD ds t = .inr r ∧ rsD ds t' = .inr r
end Tw

namespace Tw
open PySem PySem.Spec PyProof.Rows L2
/-! ### the least is what loses tells -/
end Tw

namespace Tw
open PySem PySem.Spec PyProof.Rows L2
/-! ### the law's search for the least loss -/
def nD (F : List Nat) : List Dt := F.map fun (n : Nat) => PyData.int (n : Int)
end Tw

namespace Tw
open PySem PySem.Spec PyProof.Rows L2
/-! ### wishes and scripts on a wood and on a part of it -/
/-- further names as leaves behind all -/
def leafW : List Str → Wd
  | [] => .nil
  | z :: zs => .cons z .nil (leafW zs)
def addL : Wd → List Str → Wd
  | .nil, zs => leafW zs
  | .cons n i r, zs => .cons n i (addL r zs)
end Tw

namespace Tw
open PySem PySem.Spec PyProof.Rows L2
/-! ### the twin's spare name is made before it is old -/
end Tw

namespace Tw
open PySem PySem.Spec PyProof.Rows L2
/-! ### scripts that do the same -/
/-! ### more about functions that are handed the deck -/
end Tw

namespace Tw
open PySem PySem.Spec PyProof.Rows L2
/-! ### plans -/
end Tw

namespace Tw
open PySem PySem.Spec PyProof.Rows L2
/-! ### what lean leaves -/
/-! ### lean leaves a script that does the same -/
end Tw

namespace Tw
open PySem PySem.Spec PyProof.Rows L2
/-! ### shortest is as short as lean where lean leaves two or fewer -/
end Tw

namespace Tw
open PySem PySem.Spec PyProof.Rows L2
/-! ### the least number over a list -/
/-! ### how few leaves part, reckoned -/
/-! ### it is so with other names -/
/-! ### pairs that are known (printed by tab44.py) -/
end Tw

namespace Tw
open PySem PySem.Spec PyProof.Rows L2
/-! ### what the law asks of what is told of a known pair -/
end Tw

namespace Tw
open PySem PySem.Spec PyProof.Rows L2
/-! ### six names of one letter -/
end Tw

namespace Tw
open PySem PySem.Spec PyProof.Rows L2
end Tw

namespace Tw
open PySem PySem.Spec PyProof.Rows L2
end Tw

namespace Tw
open PySem PySem.Spec PyProof.Rows L2
/-! ### the other model of children: _law_cut_off, _law_changed, _law_word, _law_ran -/
end Tw

namespace Tw
open PySem PySem.Spec PyProof.Rows L2
/-! ### what a call by a lambda does -/
end Tw

namespace Tw
open PySem PySem.Spec PyProof.Rows L2
/-! ### names that are none, names that are not there -/
end Tw

namespace Tw
open PySem PySem.Spec PyProof.Rows L2
end Tw

namespace Tw
open PySem PySem.Spec PyProof.Rows L2
end Tw

namespace Tw
open PySem PySem.Spec PyProof.Rows L2
/-! ### things that are not the name of a node -/
end Tw

namespace Tw
open PySem PySem.Spec PyProof.Rows L2
/-! ### what can be shown -/
end Tw

namespace Tw
open PySem PySem.Spec PyProof.Rows L2
/-! ### the row's deep part: three chains put into one another -/
end Tw

namespace Tw
open PySem PySem.Spec PyProof.Rows L2
end Tw

namespace Tw
open PySem PySem.Spec PyProof.Rows L2
end Tw

namespace Tw
open PySem PySem.Spec PyProof.Rows L2
end Tw

namespace Tw
open PySem PySem.Spec PyProof.Rows L2
/-! ### the judge of woods, over any data -/
end Tw

namespace Tw
open PySem PySem.Spec PyProof.Rows L2
end Tw

namespace Tw
open PySem PySem.Spec PyProof.Rows L2
end Tw

namespace Tw
open PySem PySem.Spec PyProof.Rows L2
/-! ### woods with odd things in some places -/
end Tw

namespace Tw
open PySem PySem.Spec PyProof.Rows L2
/-! ### odd things are small -/
end Tw

namespace Tw
open PySem PySem.Spec PyProof.Rows L2
/-! ### the names of two scripts, refused or not -/
end Tw

namespace Tw
open PySem PySem.Spec PyProof.Rows L2
end Tw

namespace Tw
open PySem PySem.Spec PyProof.Rows L2
/-! ### wishes and scripts that may be none, and what is told of them -/
theorem Sc.count {pend : List Pd} {acc : List Nat} {R : WR} (h : Sc pend acc R) : ∀ ds, R = .inr ds → ∀ ws : List Ws, pend.map (·.2) = ws.map Ws.D → ds.length = acc.length + (ws.map Ws.ct).sum := by
  induction h with
  | nil acc =>
    intro ds e ws hw
    cases e
    cases ws with
    | nil => rfl
    | cons w ws => cases hw
  | bad => intro ds e; cases e
  | name => intro ds e; cases e
  | @step p x r acc R hf hb hs ih =>
    intro ds e ws hw
    cases ws with
    | nil => cases hw
    | cons w ws =>
      rw [List.map_cons, List.map_cons] at hw
      obtain ⟨h1, h2⟩ := List.cons.inj hw
      have h1 : x = w.D := h1
      have kd : kidD x = w.parts.map Ws.D := by
        rw [h1]
        cases w <;> rfl
      have km : ∀ (k : Nat) (xs : List Dt), (kidP p k xs).map (·.2) = xs := by
        intro k xs
        induction xs generalizing k with
        | nil => rfl
        | cons a xs ih =>
          show a :: (kidP p (k + 1) xs).map (·.2) = a :: xs
          rw [ih]
      have := ih ds e (w.parts ++ ws) (by rw [List.map_append, List.map_append, km, kd, h2])
      have c := w.part_ct
      rw [this, List.length_append, List.map_append, List.sum_append, List.map_cons, List.sum_cons, List.length_singleton]
      omega
/-- the judge of a wish -/
def JW (x e : Dt) : Prop := nd x ≤ 200 ∧ ∃ R, Sc [([], x)] [] R ∧ e = resW R
def JS (x e : Dt) : Prop := itm x ∧ ScErr x e
theorem JW.good {x e : Dt} (h : JW x e) (he : e = .none) : ∃ w : Ws, WsN w ∧ x = w.D := by
  obtain ⟨_, R, hR, rfl⟩ := h
  obtain ⟨w, wn, wd, rfl⟩ := resW_none hR he
  refine ⟨w, ⟨wd, ?_, wn⟩, rfl⟩
  cases R with
  | inl q => cases he
  | inr ds =>
    have c := hR.count ds rfl [w] rfl
    have c : ds.length = 0 + (w.ct + 0) := c
    have he : endW ds = .none := he
    unfold endW at he
    split at he
    · cases he
    · split at he
      · cases he
      · omega
theorem JS.good {x e : Dt} (h : JS x e) (he : e = .none) : ∃ ds : List Dd, ScOk ds ∧ x = .tuple (ds.map Dd.D) := by
  obtain ⟨_, hs⟩ := h
  subst he
  cases hs with
  | ok h hn h4 h3 => exact ⟨_, ⟨by omega, hn, by omega, by omega⟩, rfl⟩
/-! ### a wish, good or not -/
/-! ### what is due -/
structure It where
  sc : Bool
  v : Dt
  e : Dt
def It.ok (i : It) : Prop := if i.sc = true then JS i.v i.e else JW i.v i.e
def It.word (i : It) : Str := if i.sc = true then "script" else "wish"
def pr (i : It) : Dt := .tuple [i.v, .str i.word]
/-! ### what is told by the def that is handed a lambda -/
end Tw

namespace Tw
open PySem PySem.Spec PyProof.Rows L2
/-! ### sayings that may be none -/
/-! ### holds and told -/
end Tw

namespace Tw
open PySem PySem.Spec PyProof.Rows L2
/-! ### the texts of the law, as it says them -/
/-! ### words -/
def wdI : RI → Str
  | .g k => dg k
  | .e p => tkS p
def okL : List RI := [.g 0, .g 1, .g 2, .g 3, .g 4, .e (true, "a"), .e (false, "a"), .e (true, "b"), .e (false, "b"), .e (true, "n"), .e (false, "n")]
def okB (x : RI) : Bool := decide (x ∈ okL)
end Tw

namespace Tw
open PySem PySem.Spec PyProof.Rows L2
/-! ### the result that a text tells -/
def rnRes (f : Str → Str) : (Nat × Str) ⊕ List RI → (Nat × Str) ⊕ List RI
  | .inl p => .inl p
  | .inr r => .inr (rnR f r)
/-- the text tells the result -/
def tells (t : Str) : (Nat × Str) ⊕ List RI → Bool
  | .inl p => decide (t = "inside") && decide (p = (0, ("inside" : Str)))
  | .inr r => decide (t ≠ "inside") && decide (Txt.split t " " = r.map wdI) && r.all okB && decide (r.length ≤ 16)
/-! ### the table that texts tell -/
structure Lt where
  tx : Str
  rw : Str
  t : List Tok
  x : (Nat × Str) ⊕ List RI
def Lt.ok (l : Lt) : Bool := tells l.tx l.x && decide (Txt.split l.rw " " = l.t.map tkS) && (l.t.map RI.e).all okB && decide (l.tx.length ≤ 200) && decide (l.rw.length ≤ 200) && decide (l.t.length ≤ 100) && decide (l.t ≠ [])
def Lt.row (f : Str → Str) (l : Lt) : List Tok := l.t.map (rnT f)
def Lt.D (f : Str → Str) (l : Lt) : Dt := .tuple [rowT (l.row f), resD (rnRes f l.x)]
structure LtOk (l : Lt) : Prop where
  tells : tells l.tx l.x = true
  split : Txt.split l.rw " " = l.t.map tkS
  ends : ∀ p ∈ l.t, okB (.e p) = true
  len : l.tx.length ≤ 200 ∧ l.rw.length ≤ 200 ∧ l.t.length ≤ 100
  ne : l.t ≠ []
theorem Lt.ok_of {l : Lt} (h : l.ok = true) : LtOk l := by
  unfold Lt.ok at h
  rw [Bool.and_eq_true, Bool.and_eq_true, Bool.and_eq_true, Bool.and_eq_true, Bool.and_eq_true, Bool.and_eq_true, decide_eq_true_eq, decide_eq_true_eq, decide_eq_true_eq, decide_eq_true_eq, decide_eq_true_eq, List.all_eq_true] at h
  obtain ⟨⟨⟨⟨⟨⟨h1, h2⟩, h3⟩, h4⟩, h5⟩, h6⟩, h7⟩ := h
  exact ⟨h1, h2, fun p hp => h3 _ (List.mem_map.mpr ⟨p, hp, rfl⟩), ⟨h4, h5, h6⟩, h7⟩
/-! ### sorted by the rows -/
end Tw

namespace Tw
open PySem PySem.Spec PyProof.Rows L2
/-! ### what the law says of each deed, reckoned -/
end Tw

namespace Tw
open PySem PySem.Spec PyProof.Rows L2
/-! ### plan, where it may raise -/
end Tw

namespace Tw
open PySem PySem.Spec PyProof.Rows L2
/-! ### what is told of a plan -/
/-! ### what is due -/
end Tw

namespace Tw
open PySem PySem.Spec PyProof.Rows L2
theorem notD_is (e : Dt) : notD e .none = some (.bool (!isNoneD e)) := by cases e <;> rfl
end Tw

namespace Tw
open PySem PySem.Spec PyProof.Rows L2
/-! ### wishes with other names -/
def Ws.rn (f : Str → Str) : Ws → Ws
  | .inn a b => .inn (f a) (f b)
  | .ahd a b => .ahd (f a) (f b)
  | .here a => .here (f a)
  | .nt w => .nt (w.rn f)
  | .an v w => .an (v.rn f) (w.rn f)
  | .or v w => .or (v.rn f) (w.rn f)
/-! ### wishes by the row -/
end Tw

namespace Tw
open PySem PySem.Spec PyProof.Rows L2
/-! ### plans with other names -/
end Tw

namespace Tw
open PySem PySem.Spec PyProof.Rows L2
end Tw

namespace Tw
open PySem PySem.Spec PyProof.Rows L2
/-! ### the wishes that are written there -/
end Tw

namespace Tw
open PySem PySem.Spec PyProof.Rows L2
/-! ### scripts and ends with other names -/
end Tw

namespace Tw
open PySem PySem.Spec PyProof.Rows L2
/-! ### a table with other names -/
end Tw

namespace Tw
open PySem PySem.Spec PyProof.Rows L2
/-! ### the table of a script with other names is the same table -/
end Tw

namespace Tw
open PySem PySem.Spec PyProof.Rows L2
/-! ### lean with other names -/
end Tw

namespace Tw
open PySem PySem.Spec PyProof.Rows L2
/-! ### how many nodes alike, within and commutes tell, with other names -/
end Tw

namespace Tw
open PySem PySem.Spec PyProof.Rows L2
/-! ### how many deeds a plan has, with other names -/
end Tw

namespace Tw
open PySem PySem.Spec PyProof.Rows L2
/-! ### how many deeds a shortest script has, with other names -/
end Tw

namespace Tw
open PySem PySem.Spec PyProof.Rows L2
/-! ### fate with other names -/
end Tw

namespace Tw
open PySem PySem.Spec PyProof.Rows L2
/-! ### what loses tells, with other names: pairs of as many nodes -/
end Tw

namespace Tw
open PySem PySem.Spec PyProof.Rows L2
/-! ### sure and keeps with other names -/
end Tw

namespace Tw
open PySem PySem.Spec PyProof.Rows L2
/-! ### instances: what the evaluators do -/
theorem mVar_ob {env : Env} {te : List A} {i : Nat} {o : Ow} (h : owAt env i = some o) : mVar i env te = .ok (.rf i none) env := by
  show (match env[i]? with | some (some a) => Rs.ok (vA i a) env | _ => .bad) = _
  rcases owAt_cell h with e | e
  · rw [e]; rfl
  · rw [e]; rfl
theorem obA_at {env : Env} {i : Nat} {c : Str} {fs : List (Str × Dt)} (h : owAt env i = some (.x (.ob c fs))) : obA env (.rf i none) = some (c, fs) := by
  unfold obA
  rw [show (A.rf i none).ow env = owAt env i from rfl, h]
theorem Ev.fld {env : Env} {i : Nat} {c f : Str} {cs : List Str} {fs : List (Str × Dt)} {x : Dt} (h : owAt env i = some (.x (.ob c fs))) (hc : c ∈ cs) (hl : fs.lookup f = some x) : Ev (mFld cs f (mVar i)) env x := fun te => by
  show (mVar i env te).bind _ = _
  rw [mVar_ob h, zq00]
  show (match obA env (.rf i none) with | some (c, fs) => if c ∈ cs then (match fs.lookup f with | some d => Rs.ok (A.d d) env | none => .bad) else .bad | none => .bad) = _
  rw [obA_at h]
  dsimp only
  rw [if_pos hc, hl]
theorem setOb_at {env : Env} {te : List A} {i : Nat} {c f : Str} {cs : List Str} {fs : List (Str × Dt)} {x : Dt} (h : owAt env i = some (.x (.ob c fs))) (hc : c ∈ cs) (hf : fs.length < 1000) (hn : anyC (isNest i) env te = false) : setOb env te (.rf i none) cs f x = some (setOw env i (.io (.x (.ob c (putS f x fs))))) := by
  show (match owAt env i with | some (.x (.ob c fs)) => if c ∈ cs ∧ fs.length < 1000 ∧ anyC (isNest i) env te = false then some (setOw env i (.io (.x (.ob c (putS f x fs))))) else none | _ => none) = _
  rw [h]
  dsimp only
  rw [if_pos ⟨hc, hf, hn⟩]
theorem cell_ob {env : Env} {i : Nat} {o : Ow} (h : owAt env i = some o) : ∃ a, env[i]? = some (some a) ∧ vA i a = .rf i none := by
  rcases owAt_cell h with e | e
  · exact ⟨_, e, rfl⟩
  · exact ⟨_, e, rfl⟩
theorem setF_at {env : Env} {te : List A} {i : Nat} {c f : Str} {cs : List Str} {fs : List (Str × Dt)} {x : Dt} {m : ME} (h : owAt env i = some (.x (.ob c fs))) (hc : c ∈ cs) (hf : fs.length < 1000) (hn : anyC (isNest i) env te = false) (hm : Ev m env x) : mSetF cs f i m env te = .nx (setOw env i (.io (.x (.ob c (putS f x fs))))) := by
  obtain ⟨a, e1, e2⟩ := cell_ob h
  unfold mSetF
  rw [hm]
  dsimp only
  rw [e1]
  dsimp only
  rw [e2, setOb_at h hc hf hn]
theorem cvd (env : Env) : ∀ xs : List Dt, cvAs (xs.map fun _ => false) (xs.map .d) env = some (xs.map fun x => ⟨.d x, none, none⟩)
  | [] => rfl
  | x :: xs => by
    show (match cvA false env (.d x), cvAs (xs.map fun _ => false) (xs.map .d) env with | some g, some gs => some (g :: gs) | _, _ => none) = _
    rw [cvd env xs]
    rfl
theorem setIo_d (env : Env) : ∀ (xs : List Dt) (ios : List A), setIo env (xs.map fun x => (⟨.d x, none, none⟩ : Ag)) ios = env
  | [], ios => by cases ios <;> rfl
  | x :: xs, [] => rfl
  | x :: xs, a :: ios => setIo_d env xs ios
theorem setIo_1 (env : Env) (i : Nat) (o : Ow) (a : A) (xs : List Dt) (ios : List A) : setIo env (⟨.io o, some i, none⟩ :: xs.map fun x => ⟨.d x, none, none⟩) (a :: ios) = setOw env i a := setIo_d (setOw env i a) xs ios
theorem set_same {α : Type} : ∀ (l : List α) (i : Nat) (x : α), l[i]? = some x → l.set i x = l
  | [], _, _, _ => rfl
  | _ :: _, 0, _, h => by cases h; rfl
  | y :: l, i + 1, x, h => by rw [List.set_cons_succ, set_same l i x h]
theorem setOw_same {env : Env} {i : Nat} {o : Ow} (h : owAt env i = some o) : setOw env i (.io o) = env := by
  rcases owAt_cell h with e | e
  · unfold setOw; rw [e]; exact set_same _ _ _ e
  · unfold setOw; rw [e]; exact set_same _ _ _ e
theorem op2_at {g : Dt → Dt → Option Dt} {ma mb : ME} {env : Env} {te : List A} {x y z : Dt} (ha : ma env te = .ok (.d x) env) (hb : Ev mb env y) (h : g x y = some z) : mOp (fl2 g) ma mb env te = .ok (.d z) env := by
  rw [ev_mOp, ha, zq00, ek_mOp_0, hb, zq00, ek_mOp_1]
  simp! [h]
theorem tst2_at {m : ME} {env : Env} {te : List A} {b : Bool} (h : m env te = .ok (.d (.bool b)) env) : mTst m env te = .ok b env := by
  rw [show mTst m env te = (m env te).bind tstA from rfl, h, zq00]
  rfl
end Tw

namespace Tw
open PySem PySem.Spec PyProof.Rows L2
/-! ### a reader of a text -/
def ch (c : Nat) : Str := ⟨#[c]⟩
/-- the next sign -/
def pk (t : Str) (k : Nat) : Str := cutS t (some (k : Int)) (some ((k : Int) + 1))
/-! ### names -/
end Tw

namespace Tw
open PySem PySem.Spec PyProof.Rows L2
/-! ### one of some words -/
end Tw

namespace Tw
open PySem PySem.Spec PyProof.Rows L2
/-! ### the texts of scripts, sign by sign -/
/-! ### deeds as rows of words -/
def rwdD (d : List Str) : Dt := .tuple (d.map .str)
end Tw

namespace Tw
open PySem PySem.Spec PyProof.Rows L2
/-! ### the program's reader of scripts -/
theorem tail_drop {l : List Nat} {k : Nat} : (l.drop k).tail = l.drop (k + 1) := List.tail_drop
end Tw

namespace Tw
open PySem PySem.Spec PyProof.Rows L2
theorem asg_chg {m : ME} {env env' : Env} {te : List A} {i : Nat} {a : A} (h : m env te = .ok a env') (hd : plB env' = true) (hi : i < env'.length) (ht : te.any (isRf i) = false) (ha : (∃ x, a = .d x) ∨ (∃ o, a = .own o)) : mAsg m (gN i) env te = .nx (env'.set i (some a)) := by
  rw [ev_mAsg, h, ev_fl_ok]
  show (match gN i a env' te with | some e' => Fl.nx e' | none => .bad) = _
  rw [gN_pl hd hi ht ha]
end Tw

namespace Tw
open PySem PySem.Spec PyProof.Rows L2
end Tw

namespace Tw
open PySem PySem.Spec PyProof.Rows L2
/-! ### the law's judge of texts of scripts -/
end Tw

namespace Tw
open PySem PySem.Spec PyProof.Rows L2
/-! ### calls that change a thing which they are handed -/
theorem call_io1 {F : DF} {ms : MA} {env : Env} {te : List A} {i : Nat} {o : Ow} {xs : List Dt} {r a : A} {ios : List A} (h : owAt env i = some o) (hs : Evs ms env xs) (hn : anyC (isNest i) env te = false) (hF : F (.io o :: xs.map .d) = .ok r (a :: ios)) :
    mCall F (true :: xs.map fun _ => false) (mCons (mVar i) ms) env te = .ok r (setOw env i a) := by
  have e : mCons (mVar i) ms env te = .ok (.rf i none :: xs.map .d) env := by
    rw [ev_mCons, mVar_ob h, zq00, ek_mCons_0, hs, zq00]
    rfl
  have io0 : ioS (xs.map fun x => (⟨.d x, none, none⟩ : Ag)) = [] := by
    unfold ioS
    rw [List.filterMap_map]
    exact List.filterMap_eq_nil_iff.mpr fun _ _ => rfl
  have br0 : brS (xs.map fun x => (⟨.d x, none, none⟩ : Ag)) = [] := by
    unfold brS
    rw [List.filterMap_map]
    exact List.filterMap_eq_nil_iff.mpr fun _ _ => rfl
  rw [ev_mCall, e, zq00]
  have cv : cvAs (true :: xs.map fun _ => false) (.rf i none :: xs.map .d) env = some (⟨.io o, some i, none⟩ :: xs.map fun x => ⟨.d x, none, none⟩) := by
    show (match cvA true env (.rf i none), cvAs (xs.map fun _ => false) (xs.map .d) env with | some g, some gs => some (g :: gs) | _, _ => none) = _
    rw [cvd env xs]
    show (match (match owAt env i with | some o => some (⟨.io o, some i, none⟩ : Ag) | none => none), some (xs.map fun x => (⟨.d x, none, none⟩ : Ag)) with | some g, some gs => some (g :: gs) | _, _ => none) = _
    rw [h]
  simp only [ek_mCall_0]
  rw [cv]
  show doCall F env te _ = _
  have i1 : ioS ((⟨.io o, some i, none⟩ : Ag) :: xs.map fun x => ⟨.d x, none, none⟩) = [i] := by
    unfold ioS at io0 ⊢
    rw [List.filterMap_cons]
    simp only [io0]
  have b1 : brS ((⟨.io o, some i, none⟩ : Ag) :: xs.map fun x => ⟨.d x, none, none⟩) = [] := by
    unfold brS at br0 ⊢
    rw [List.filterMap_cons]
    simp only [br0]
  have ao : agOk env te ((⟨.io o, some i, none⟩ : Ag) :: xs.map fun x => ⟨.d x, none, none⟩) = true := by
    unfold agOk
    rw [i1, b1]
    simp [hn]
  have am : (((⟨.io o, some i, none⟩ : Ag) :: xs.map fun x => ⟨.d x, none, none⟩).map (·.a)) = .io o :: xs.map .d := by
    rw [List.map_cons, List.map_map]
    rfl
  unfold doCall
  rw [if_pos ao, am, b1, hF]
  refine (if_pos (.inl rfl)).trans ?_
  rw [setIo_1]
theorem noX_ok' {F : DF} {as : List A} {r : A} {ios : List A} (h : F as = .ok r ios) : noXf F as = .ok r ios := by
  unfold noXf
  rw [h]
  rfl
theorem add_chg {ma mb : ME} {env e1 e2 : Env} {te : List A} {xs ys : List Dt} (ha : ma env te = .ok (.own (.l xs)) e1) (hb : mb e1 (.own (.l xs) :: te) = .ok (.own (.l ys)) e2) (hl : xs.length + ys.length ≤ 100000) : mOp addA ma mb env te = .ok (.own (.l (xs ++ ys))) e2 := by
  have h' : xs.length + ys.length ≤ sizeLine := big hl
  rw [ev_mOp, ha, zq00, ek_mOp_0, hb, zq00, ek_mOp_1]
  simp! [h', Ow.lst?, A.lst?]
/-! ### lengths of joined texts -/
end Tw

namespace Tw
open PySem PySem.Spec PyProof.Rows L2
/-! ### a drawn sign, a spoilt text -/
end Tw

namespace Tw
open PySem PySem.Spec PyProof.Rows L2
/-! ### a text with one item more, less or other -/
section
variable {g m c a way : Int} {t : Str} {L : List Dt} {W : List Str}
theorem sl_to {n : Nat} {env : Env} {i : Nat} {te : List A} {W : List Str} {mh : ME} (h : env[i]? = some (some (.own (.l (W.map .str))))) (hh : Ev mh env (.int (n : Nat))) : mSl (mVar i) mNoPart (mPart mh) env te = .ok (.own (.l ((W.take n).map .str))) env := by
  have e : cutD (W.map PyData.str) none (some (n : Int)) = (W.take n).map .str := by rw [cutD_to, List.map_take]
  rw [ev_mSl, mVar_ob (o := .l (W.map .str)) (by unfold owAt; rw [h]), zq00, ek_mSl_0]
  simp only [ev_mNoPart, zq00, ek_mSl_1]
  rw [ev_mPart, hh]
  have e2 : (A.rf i none).lst? env = some (W.map .str) := by
    show (owAt env i).bind Ow.lst? = _
    unfold owAt
    rw [h]
    rfl
  show (match (A.rf i none).lst? env with | some xs => Rs.ok (A.own (.l (cutD xs none (some (n : Int))))) env | none => .bad) = _
  rw [e2]
  show Rs.ok (A.own (.l (cutD _ _ _))) env = _
  rw [e]
end
end Tw

namespace Tw
open PySem PySem.Spec PyProof.Rows L2
/-! ### drawn scripts, and a text read back -/
theorem rowsD_plain (ds : List (List Str)) : (PyData.tuple (ds.map rwdD)).plain = true ∧ (PyData.tuple (ds.map rwdD)).depth ≤ 3 := by
  have ps : ∀ l : List Str, PyData.plainAll (l.map .str) = true := fun l => plainAll_of fun x hx => by
    obtain ⟨z, _, rfl⟩ := List.mem_map.mp hx
    rfl
  have dp : ∀ l : List Str, PyData.depthAll (l.map .str) = 0 := by
    intro l
    induction l with
    | nil => rfl
    | cons z l ih =>
      show max 0 (PyData.depthAll (l.map .str)) = 0
      rw [ih]
      rfl
  refine ⟨plainAll_of fun x hx => ?_, ?_⟩
  · obtain ⟨d, _, rfl⟩ := List.mem_map.mp hx
    exact ps d
  · show PyData.depthAll (ds.map rwdD) + 1 ≤ 3
    have : PyData.depthAll (ds.map rwdD) ≤ 1 := by
      induction ds with
      | nil => exact Nat.zero_le _
      | cons d ds ih =>
        show max (PyData.depthAll (d.map .str) + 1) (PyData.depthAll (ds.map rwdD)) ≤ 1
        rw [dp]
        omega
    omega
end Tw

namespace Tw
open PySem PySem.Spec PyProof.Rows L2
/-! ### instances of Script that are called -/
def scO (D : Dt) : Ow := .x (.ob "Script" [(("row" : Str), D)])
abbrev scA (D : Dt) : A := .io (scO D)
theorem scr_init {D : Dt} (h : f_script_error [.d D] = .ok (.d .none) [.d D]) : f_Script___init___x [.io (.x (.ob "Script" [])), .d D] = .ok (.d .none) [scA D, .d D] := by
  show endM _ (m_Script___init___x [some (.io (.x (.ob "Script" []))), some (.d D), none] []) = _
  unfold m_Script___init___x
  generalize f_script_error = F at h ⊢
  have k1 : mAsg (mCall (noXf F) [false] (mCons (mVar 1) mNil)) (gN 2) [some (.io (.x (.ob "Script" []))), some (.d D), none] [] = .nx [some (.io (.x (.ob "Script" []))), some (.d D), some (.d .none)] := asg_at (Ev.call (Evs.cons (Ev.v rfl) Evs.nil) rfl h []) rfl
  rw [seq_nx k1]
  have t0 := (Ev.eq (g := notD) (Ev.v (env := [some (.io (.x (.ob "Script" []))), some (.d D), some (.d .none)]) (i := 2) (x := .none) rfl) (Ev.c (x := .none)) (notD_is .none)).tst []
  rw [seq_nx (ifS_F t0), setF_at (c := "Script") (f := "row") (fs := []) (x := D) rfl List.mem_cons_self (show 0 < 1000 by decide) rfl (Ev.d (Ev.v rfl))]
  rfl
end Tw

namespace Tw
open PySem PySem.Spec PyProof.Rows L2
/-! ### woods within the limits -/
end Tw

namespace Tw
open PySem PySem.Spec PyProof.Rows L2
/-! ### what a Script tells of itself -/
theorem row_ev {T : Dt} {e : Env} : Ev (mFld [("Script" : Str)] "row" (mVar 0)) (some (scA T) :: e) T := Ev.fld (i := 0) (c := "Script") (fs := [(("row" : Str), T)]) rfl List.mem_cons_self rfl
theorem deeds_fn (T : Dt) : f_Script_deeds_x [scA T] = .ok (.d T) [scA T] := by
  show endM [scA T] (m_Script_deeds_x [some (scA T)] []) = _
  unfold m_Script_deeds_x
  show endM [scA T] (Rs.fl (mFld [("Script" : Str)] "row" (mVar 0) [some (scA T)] []) fun a e => .rt a e) = _
  rw [row_ev]
  rfl
def oldS (ds : List Dd) : List Str := srtS (roN false (roF ds []))
def newS' (ds : List Dd) : List Str := srtS (roN true (roF ds []))
theorem sold_fn {ds : List Dd} (hl : ds.length ≤ 30) (hd : ∀ d ∈ ds, d.nm) : f_Script_old_x [scA (.tuple (ds.map Dd.D))] = .ok (.d (.tuple ((oldS ds).map .str))) [scA (.tuple (ds.map Dd.D))] := by
  have h := old_names_fn ds hl hd
  show endM _ (m_Script_old_x [some (scA (.tuple (ds.map Dd.D)))] []) = _
  unfold m_Script_old_x
  generalize f_old_names = F at h ⊢
  generalize PyData.tuple (ds.map Dd.D) = T at h ⊢
  have c : Ev (mCall (noXf F) [false] (mCons (mD (mFld [("Script" : Str)] "row" (mVar 0))) mNil)) [some (scA T)] _ := Ev.call (Evs.cons (Ev.d row_ev) Evs.nil) rfl h
  show endM [scA T] (Rs.fl (mCall (noXf F) [false] (mCons (mD (mFld [("Script" : Str)] "row" (mVar 0))) mNil) [some (scA T)] []) fun a e => .rt a e) = _
  rw [c]
  rfl
theorem snew_fn {ds : List Dd} (hl : ds.length ≤ 30) (hd : ∀ d ∈ ds, d.nm) : f_Script_new_x [scA (.tuple (ds.map Dd.D))] = .ok (.d (.tuple ((newS' ds).map .str))) [scA (.tuple (ds.map Dd.D))] := by
  have h := new_names_fn ds hl hd
  show endM _ (m_Script_new_x [some (scA (.tuple (ds.map Dd.D)))] []) = _
  unfold m_Script_new_x
  generalize f_new_names = F at h ⊢
  generalize PyData.tuple (ds.map Dd.D) = T at h ⊢
  have c : Ev (mCall (noXf F) [false] (mCons (mD (mFld [("Script" : Str)] "row" (mVar 0))) mNil)) [some (scA T)] _ := Ev.call (Evs.cons (Ev.d row_ev) Evs.nil) rfl h
  show endM [scA T] (Rs.fl (mCall (noXf F) [false] (mCons (mD (mFld [("Script" : Str)] "row" (mVar 0))) mNil) [some (scA T)] []) fun a e => .rt a e) = _
  rw [c]
  rfl
theorem slen_fn (xs : List Dt) : f_Script___len___x [scA (.tuple xs)] = .ok (.d (.int (xs.length : Nat))) [scA (.tuple xs)] := by
  show endM _ (m_Script___len___x [some (scA (.tuple xs))] []) = _
  unfold m_Script___len___x
  have e : mCons (mFld [("Script" : Str)] "row" (mVar 0)) mNil [some (scA (.tuple xs))] [] = .ok [.d (.tuple xs)] [some (scA (.tuple xs))] := (Evs.cons row_ev Evs.nil) []
  have c : mCB (one lenA) (mCons (mFld [("Script" : Str)] "row" (mVar 0)) mNil) [some (scA (.tuple xs))] [] = .ok (.d (.int (xs.length : Nat))) [some (scA (.tuple xs))] := by
    show Rs.bind (mCons _ _ _ _) _ = _
    rw [e, zq00]
    rfl
  show endM [scA (.tuple xs)] (Rs.fl (mCB (one lenA) (mCons (mFld [("Script" : Str)] "row" (mVar 0)) mNil) [some (scA (.tuple xs))] []) fun a e => .rt a e) = _
  rw [c]
  rfl
theorem shas_fn {ds : List Dd} (hl : ds.length ≤ 30) (hd : ∀ d ∈ ds, d.nm) (x : Dt) : f_Script___contains___x [scA (.tuple (ds.map Dd.D)), .d x] = .ok (.d (.bool (hasW x (oldS ds) || hasW x (newS' ds)))) [scA (.tuple (ds.map Dd.D)), .d x] := by
  have h1 := old_names_fn ds hl hd
  have h2 := new_names_fn ds hl hd
  show endM _ (m_Script___contains___x [some (scA (.tuple (ds.map Dd.D))), some (.d x)] []) = _
  unfold m_Script___contains___x
  generalize f_old_names = F at h1 ⊢
  generalize f_new_names = G at h2 ⊢
  generalize PyData.tuple (ds.map Dd.D) = T at h1 h2 ⊢
  have c1 : Ev (mCall (noXf F) [false] (mCons (mD (mFld [("Script" : Str)] "row" (mVar 0))) mNil)) [some (scA T), some (.d x)] _ := Ev.call (Evs.cons (Ev.d row_ev) Evs.nil) rfl h1
  have c2 : Ev (mCall (noXf G) [false] (mCons (mD (mFld [("Script" : Str)] "row" (mVar 0))) mNil)) [some (scA T), some (.d x)] _ := Ev.call (Evs.cons (Ev.d row_ev) Evs.nil) rfl h2
  have v1 : Ev (mVar 1) [some (scA T), some (.d x)] x := Ev.v rfl
  have o := Ev.orE (Ev.eq (g := inD false) v1 c1 (inD_any false x _)) (Ev.eq (g := inD false) v1 c2 (inD_any false x _))
  show endM [scA T, .d x] (Rs.fl (mOrE _ _ [some (scA T), some (.d x)] []) fun a e => .rt a e) = _
  rw [o]
  rfl
end Tw

namespace Tw
open PySem PySem.Spec PyProof.Rows L2
theorem call_odl {F : DF} {env e' : Env} {te : List A} {i j : Nat} {o o' : Ow} {L : List Dt} {t x : Dt} {mt : ME} (ow : owAt env i = some o) (ot : o'.tup = true) (ht : Ev mt env t) (hj : env[j]? = some (some (.own (.l L)))) (hn : anyC (isNest i) env te = false) (hij : i ≠ j)
    (hs : setOw env i (.io o') = e') (hr : (A.d x).tup = true) (hF : F [.io o, .d t, .d (.list L)] = .ok (.d x) [.io o', .d t, .d (.list L)]) :
    mCall (noXf F) [true, false, false] (mCons (mVar i) (mCons mt (mCons (mVar j) mNil))) env te = .ok (.d x) e' := by
  have vj : ∀ te, mVar j env te = .ok (.rf j none) env := fun te => by
    unfold mVar
    rw [hj]
    rfl
  have oj : owAt env j = some (.l L) := by
    unfold owAt
    rw [hj]
  have e1 : cvA true env (.rf i none) = some ⟨.io o, some i, none⟩ := by
    show (match owAt env i with | some o => some (⟨.io o, some i, none⟩ : Ag) | none => none) = _
    rw [ow]
  have e2 : cvA false env (.rf j none) = some ⟨.d (.list L), none, some j⟩ := by
    have v : (A.rf j none).val env = some (.list L) := by
      simp [A.val, A.ow, oj, Ow.dt]
    show (match (A.rf j none).val env with | some x => some (⟨.d x, none, some j⟩ : Ag) | none => none) = _
    rw [v]
  have c1 : cvAs [true, false, false] [.rf i none, .d t, .rf j none] env = some [⟨.io o, some i, none⟩, ⟨.d t, none, none⟩, ⟨.d (.list L), none, some j⟩] := by
    show (match cvA true env (.rf i none), (match cvA false env (.d t), (match cvA false env (.rf j none), cvAs [] [] env with | some g, some gs => some (g :: gs) | _, _ => none) with | some g, some gs => some (g :: gs) | _, _ => none) with | some g, some gs => some (g :: gs) | _, _ => none) = _
    rw [e1, e2]
    rfl
  have ao : agOk env te [⟨.io o, some i, none⟩, ⟨.d t, none, none⟩, ⟨.d (.list L), none, some j⟩] = true := by
    unfold agOk
    show (decide ([i] : List Nat).Nodup && ([i] : List Nat).all fun k => !([j] : List Nat).contains k && !anyC (isNest k) env te) = true
    simp [hn, hij]
  rw [ev_mCall]
  have e : mCons (mVar i) (mCons mt (mCons (mVar j) mNil)) env te = .ok [.rf i none, .d t, .rf j none] env := by
    rw [ev_mCons, mVar_ob ow, zq00, ek_mCons_0, ev_mCons, ht, zq00, ek_mCons_0, ev_mCons, vj, zq00, ek_mCons_0]
    rfl
  rw [e, zq00]
  simp only [ek_mCall_0]
  rw [c1]
  show doCall (noXf F) env te _ = _
  unfold doCall
  rw [if_pos ao]
  have eF : noXf F (([⟨.io o, some i, none⟩, ⟨.d t, none, none⟩, ⟨.d (.list L), none, some j⟩] : List Ag).map (·.a)) = .ok (.d x) [.io o', .d t, .d (.list L)] := noX_ok' hF
  rw [eF]
  dsimp only
  rw [if_pos (.inr ⟨hr, by show (o'.tup && (true && (true && true))) = true; rw [ot]; rfl⟩)]
  show Rs.ok (A.d x) (setOw env i (.io o')) = _
  rw [hs]
theorem own_var {i : Nat} {env : Env} {te : List A} {o : Ow} (h : env[i]? = some (some (.own o))) : mVar i env te = .ok (.rf i none) env ∧ owAt env i = some o := by
  constructor
  · unfold mVar
    rw [h]
    rfl
  · unfold owAt
    rw [h]
/-- a put at a key of two texts, the second one drawn -/
theorem add_var2 {mb : ME} {env e : Env} {te : List A} {i : Nat} {xs ys : List Dt} (ha : env[i]? = some (some (.own (.l xs)))) (hb : mb env (.rf i none :: te) = .ok (.own (.l ys)) e) (he : e[i]? = some (some (.own (.l xs)))) (hl : xs.length + ys.length ≤ 100000) : mOp addA (mVar i) mb env te = .ok (.own (.l (xs ++ ys))) e := by
  have v := (own_var (te := te) ha).1
  have h' : xs.length + ys.length ≤ sizeLine := big hl
  rw [ev_mOp, v, zq00, ek_mOp_0, hb, zq00, ek_mOp_1]
  simp! [h', Ow.lst?, A.lst?, A.lstT?, A.ow, A.val, owAt, he, Ow.dt]
theorem hasW_app (x : Dt) (a b : List Str) : (hasW x a || hasW x b) = hasW x (a ++ b) := by
  unfold hasW
  cases x <;> simp [Bool.decide_or]
/-! ### an instance's own answers -/
theorem prp_ev {F : DF} {T v : Dt} {e : Env} (hF : F [scA T] = .ok (.d v) [scA T]) (hn : ∀ te : List A, te.any (isNest 0) = false → anyC (isNest 0) (some (scA T) :: e) te = false) (te : List A) (ht : te.any (isNest 0) = false) : mCall (noXf F) [true] (mPrp "Script" (mVar 0)) (some (scA T) :: e) te = .ok (.d v) (some (scA T) :: e) := by
  have ow : owAt (some (scA T) :: e) 0 = some (scO T) := rfl
  have a1 : mPrp "Script" (mVar 0) (some (scA T) :: e) te = mCons (mVar 0) mNil (some (scA T) :: e) te := by
    rw [ev_mCons]
    show (mVar 0 _ te).bind _ = _
    rw [mVar_ob ow, zq00, zq00]
    show (match obA (some (scA T) :: e) (.rf 0 none) with | some (c', _) => if c' = "Script" then Rs.ok [A.rf 0 none] (some (scA T) :: e) else .bad | none => .bad) = _
    rw [obA_at (c := "Script") (fs := [(("row" : Str), T)]) ow]
    exact if_pos rfl
  have k := call_io1 (F := noXf F) (ms := mNil) (env := some (scA T) :: e) (te := te) (i := 0) (o := scO T) (xs := []) (r := .d v) (a := scA T) (ios := []) ow Evs.nil (hn te ht) (noX_ok' hF)
  rw [setOw_same ow] at k
  rw [ev_mCall, a1, ← ev_mCall]
  exact k
theorem dun_ev {F : DF} {T x v : Dt} {i : Nat} {e : Env} (hi : (some (scA T) :: e)[i]? = some (some (.d x))) (hF : F [scA T, .d x] = .ok (.d v) [scA T, .d x]) (hn : ∀ te : List A, te.any (isNest 0) = false → anyC (isNest 0) (some (scA T) :: e) te = false) (te : List A) (ht : te.any (isNest 0) = false) : mCall (noXf F) [true, false] (mDun "Script" (mVar 0) (mCons (mVar i) mNil)) (some (scA T) :: e) te = .ok (.d v) (some (scA T) :: e) := by
  have ow : owAt (some (scA T) :: e) 0 = some (scO T) := rfl
  have ev1 : Evs (mCons (mVar i) mNil) (some (scA T) :: e) [x] := Evs.cons (Ev.v hi) Evs.nil
  have a1 : mDun "Script" (mVar 0) (mCons (mVar i) mNil) (some (scA T) :: e) te = mCons (mVar 0) (mCons (mVar i) mNil) (some (scA T) :: e) te := by
    rw [ev_mCons]
    show (mVar 0 _ te).bind _ = _
    rw [mVar_ob ow, zq00, zq00, ek_mCons_0, ev1]
    show (match obA (some (scA T) :: e) (.rf 0 none) with
      | some _ => (Rs.ok (List.map A.d [x]) (some (scA T) :: e)).bind fun as e2 => (match obA e2 (.rf 0 none) with
        | some (c', _) => if c' = "Script" then Rs.ok (A.rf 0 none :: as) e2 else .bad
        | none => .bad)
      | none => .bad) = _
    rw [obA_at (c := "Script") (fs := [(("row" : Str), T)]) ow]
    dsimp only
    rw [zq00, obA_at (c := "Script") (fs := [(("row" : Str), T)]) ow]
    exact if_pos rfl
  have k := call_io1 (F := noXf F) (ms := mCons (mVar i) mNil) (env := some (scA T) :: e) (te := te) (i := 0) (o := scO T) (xs := [x]) (r := .d v) (a := scA T) (ios := [.d x]) ow ev1 (hn te ht) (noX_ok' hF)
  rw [setOw_same ow] at k
  rw [ev_mCall, a1, ← ev_mCall]
  exact k
theorem strT_plain (l : List Str) : (PyData.tuple (l.map .str)).plain = true ∧ (PyData.tuple (l.map .str)).depth ≤ 190 := by
  have ps : PyData.plainAll (l.map .str) = true := plainAll_of fun x hx => by
    obtain ⟨z, _, rfl⟩ := List.mem_map.mp hx
    rfl
  have dp : PyData.depthAll (l.map .str) = 0 := by
    clear ps
    induction l with
    | nil => rfl
    | cons z l ih =>
      show max 0 (PyData.depthAll (l.map .str)) = 0
      rw [ih]
      rfl
  refine ⟨ps, ?_⟩
  show PyData.depthAll (l.map .str) + 1 ≤ 190
  omega
def rgE (T : Dt) (L : List Dt) (y3 y4 y5 : Option Dt) : Env := [some (scA T), some (.d T), some (.d (.list L)), od y3, od y4, od y5]
theorem rgN {T : Dt} {L : List Dt} {y3 y4 y5 : Option Dt} : ∀ te : List A, te.any (isNest 0) = false → anyC (isNest 0) (rgE T L y3 y4 y5) te = false := fun te h => by
  unfold anyC
  rw [h]
  cases y3 <;> cases y4 <;> cases y5 <;> rfl
theorem right_fn {ds : List Dd} (hl : ds.length ≤ 30) (hd : ∀ d ∈ ds, d.nm) (lO : (oldS ds).length ≤ 1000) (lN : (newS' ds).length ≤ 1000) (L : List Dt) : f_rightL_v3_x [scA (.tuple (ds.map Dd.D)), .d (.tuple (ds.map Dd.D)), .d (.list L)] = .ok (.d (.bool true)) [scA (.tuple (ds.map Dd.D)), .d (.tuple (ds.map Dd.D)), .d (.list L)] := by
  have q1 := roles_fn ds hl
  have ro := rlF_ro ds []
  have e5 : rlF ds ([], []) = (roN false (roF ds []), roN true (roF ds [])) := ro
  rw [e5] at q1
  have q1 : f_rolesL [.d (.tuple (ds.map Dd.D))] = .ok (.d (.tuple [.tuple ((oldS ds).map .str), .tuple ((newS' ds).map .str)])) [.d (.tuple (ds.map Dd.D))] := q1
  have q2 := deeds_fn (.tuple (ds.map Dd.D))
  have q3 := sold_fn hl hd
  have q4 := snew_fn hl hd
  have q5 := slen_fn (ds.map Dd.D)
  have q6 := shas_fn hl hd
  have pT : (PyData.tuple (ds.map Dd.D)).plain = true ∧ (PyData.tuple (ds.map Dd.D)).depth ≤ 190 := by
    have h := rowsD_plain (ds.map fun d => d.k.str :: d.ns)
    rw [List.map_map] at h
    exact ⟨h.1, by have := h.2; exact Nat.le_trans this (by decide)⟩
  have tl : tupAll (ds.map Dd.D) = true := tup_deeds ds
  have lD : (ds.map Dd.D).length ≤ 30 := by rw [List.length_map]; exact hl
  suffices h : DOk (fun r ios => r = .d (.bool true) ∧ ios = [scA (.tuple (ds.map Dd.D)), .d (.tuple (ds.map Dd.D)), .d (.list L)]) (f_rightL_v3_x [scA (.tuple (ds.map Dd.D)), .d (.tuple (ds.map Dd.D)), .d (.list L)]) by
    obtain ⟨r, ios, e, rfl, rfl⟩ := h.ex
    exact e
  unfold f_rightL_v3_x
  refine run_ok ?_
  unfold m_rightL_v3_x
  generalize f_rolesL = F1 at q1 ⊢
  generalize f_Script_deeds_x = F2 at q2 ⊢
  generalize f_Script_old_x = F3 at q3 ⊢
  generalize f_Script_new_x = F4 at q4 ⊢
  generalize f_Script___len___x = F5 at q5 ⊢
  generalize f_Script___contains___x = F6 at q6 ⊢
  generalize ds.map Dd.D = D at q1 q2 q3 q4 q5 q6 pT tl lD ⊢
  refine FP.st (e := rgE (.tuple D) L (some (.tuple ((oldS ds).map .str))) (some (.tuple ((newS' ds).map .str))) none) ?_ ?_
  · have c1 : mCall (noXf F1) [false] (mCons (mVar 1) mNil) [some (scA (.tuple D)), some (.d (.tuple D)), some (.d (.list L)), none, none, none] [] = .ok (.d (.tuple [.tuple ((oldS ds).map .str), .tuple ((newS' ds).map .str)])) [some (scA (.tuple D)), some (.d (.tuple D)), some (.d (.list L)), none, none, none] := Ev.call (Evs.cons (Ev.v (i := 1) rfl) Evs.nil) rfl q1 []
    show mAsg (mCall (noXf F1) [false] (mCons (mVar 1) mNil)) (gT [3, 4]) [some (scA (.tuple D)), some (.d (.tuple D)), some (.d (.list L)), none, none, none] [] = _
    rw [ev_mAsg, c1]
    rfl
  have pO := strT_plain (oldS ds)
  have pN := strT_plain (newS' ds)
  have isO : Ev (mIsO [("Script", true)] (mVar 0)) (rgE (.tuple D) L (some (.tuple ((oldS ds).map .str))) (some (.tuple ((newS' ds).map .str))) none) (.bool true) := fun te => by
    show (mVar 0 _ te).bind _ = _
    have ow : owAt (rgE (.tuple D) L (some (.tuple ((oldS ds).map .str))) (some (.tuple ((newS' ds).map .str))) none) 0 = some (scO (.tuple D)) := rfl
    rw [mVar_ob ow, zq00, obA_at (c := "Script") (fs := [(("row" : Str), .tuple D)]) ow]
    rfl
  have p1 := prp_ev (T := .tuple D) q2 (rgN (L := L) (y3 := some (.tuple ((oldS ds).map .str))) (y4 := some (.tuple ((newS' ds).map .str))) (y5 := none)) [] rfl
  have p2 := prp_ev (T := .tuple D) q3 (rgN (L := L) (y3 := some (.tuple ((oldS ds).map .str))) (y4 := some (.tuple ((newS' ds).map .str))) (y5 := none)) [] rfl
  have p3 := prp_ev (T := .tuple D) q4 (rgN (L := L) (y3 := some (.tuple ((oldS ds).map .str))) (y4 := some (.tuple ((newS' ds).map .str))) (y5 := none)) [] rfl
  have p4 := prp_ev (T := .tuple D) q5 (rgN (L := L) (y3 := some (.tuple ((oldS ds).map .str))) (y4 := some (.tuple ((newS' ds).map .str))) (y5 := none)) [] rfl
  have t1 := tst2_at (op2_at (g := neD) (z := .bool false) p1 (Ev.v (i := 1) (x := .tuple D) rfl) (neD_self pT.1 pT.2))
  have t2 := tst2_at (op2_at (g := neD) (z := .bool false) p2 (Ev.v (i := 3) (x := .tuple ((oldS ds).map .str)) rfl) (neD_self pO.1 pO.2))
  have t3 := tst2_at (op2_at (g := neD) (z := .bool false) p3 (Ev.v (i := 4) (x := .tuple ((newS' ds).map .str)) rfl) (neD_self pN.1 pN.2))
  refine FP.sq (FP.ifF (or_ev (a := false) (b := false) (not_ev (isO.tst [])) (fun _ => or_ev (a := false) (b := false) t1 (fun _ => or_ev (a := false) (b := false) t2 (fun _ => t3)))) (.nx ?_))
  have p5 : mLo (mCall (noXf F5) [true] (mPrp "Script" (mVar 0))) (rgE (.tuple D) L (some (.tuple ((oldS ds).map .str))) (some (.tuple ((newS' ds).map .str))) none) [] = .ok (.d (.int (D.length : Nat))) (rgE (.tuple D) L (some (.tuple ((oldS ds).map .str))) (some (.tuple ((newS' ds).map .str))) none) := by
    show (mCall (noXf F5) [true] (mPrp "Script" (mVar 0)) _ []).bind _ = _
    have p4 : mCall (noXf F5) [true] (mPrp "Script" (mVar 0)) (rgE (.tuple D) L (some (.tuple ((oldS ds).map .str))) (some (.tuple ((newS' ds).map .str))) none) [] = .ok (.d (.int (D.length : Nat))) (rgE (.tuple D) L (some (.tuple ((oldS ds).map .str))) (some (.tuple ((newS' ds).map .str))) none) := p4
    rw [p4, zq00]
    exact if_pos ⟨by omega, by omega⟩
  have p6 : Ev (mCB (one lenA) (mCons (mVar 1) mNil)) (rgE (.tuple D) L (some (.tuple ((oldS ds).map .str))) (some (.tuple ((newS' ds).map .str))) none) (.int (D.length : Nat)) := fun te => by
    show Rs.bind (mCons _ _ _ te) _ = _
    rw [(Evs.cons (Ev.v (i := 1) (x := .tuple D) rfl) Evs.nil) te, zq00]
    rfl
  have t4 := tst2_at (op2_at (g := neD) (z := .bool false) p5 p6 (by rw [neD_int, decide_eq_true rfl]; rfl))
  refine FP.sq (FP.ifF t4 (.nx ?_))
  refine FP.sq ?_
  refine fp_for (fun r e => ∃ y5, e = rgE (.tuple D) L (some (.tuple ((oldS ds).map .str))) (some (.tuple ((newS' ds).map .str))) y5) (seqI_lst (Ev.v (i := 2) (x := .list L) rfl)) ⟨none, rfl⟩ (fun _ _ _ => rfl) ?_ ?_
  · rintro x r e ⟨y5, rfl⟩
    refine ⟨rgE (.tuple D) L (some (.tuple ((oldS ds).map .str))) (some (.tuple ((newS' ds).map .str))) (some x), by cases y5 <;> rfl, ?_⟩
    have c1 := dun_ev (T := .tuple D) (i := 5) (e := [some (.d (.tuple D)), some (.d (.list L)), some (.d (.tuple ((oldS ds).map .str))), some (.d (.tuple ((newS' ds).map .str))), some (.d x)]) rfl (q6 x) (rgN (L := L) (y3 := some (.tuple ((oldS ds).map .str))) (y4 := some (.tuple ((newS' ds).map .str))) (y5 := some x)) ([.d (.list L)] ++ []) rfl
    have c2 : mBo (mCall (noXf F6) [true, false] (mDun "Script" (mVar 0) (mCons (mVar 5) mNil))) (rgE (.tuple D) L (some (.tuple ((oldS ds).map .str))) (some (.tuple ((newS' ds).map .str))) (some x)) ([.d (.list L)] ++ []) = .ok (.d (.bool (hasW x (oldS ds) || hasW x (newS' ds)))) (rgE (.tuple D) L (some (.tuple ((oldS ds).map .str))) (some (.tuple ((newS' ds).map .str))) (some x)) := by
      show (mCall (noXf F6) [true, false] (mDun "Script" (mVar 0) (mCons (mVar 5) mNil)) _ _).bind _ = _
      have c1 : mCall (noXf F6) [true, false] (mDun "Script" (mVar 0) (mCons (mVar 5) mNil)) (rgE (.tuple D) L (some (.tuple ((oldS ds).map .str))) (some (.tuple ((newS' ds).map .str))) (some x)) ([.d (.list L)] ++ []) = .ok (.d (.bool (hasW x (oldS ds) || hasW x (newS' ds)))) (rgE (.tuple D) L (some (.tuple ((oldS ds).map .str))) (some (.tuple ((newS' ds).map .str))) (some x)) := c1
      rw [c1]
      rfl
    have ad : Ev (mOp addA (mVar 3) (mVar 4)) (rgE (.tuple D) L (some (.tuple ((oldS ds).map .str))) (some (.tuple ((newS' ds).map .str))) (some x)) (.tuple ((oldS ds ++ newS' ds).map .str)) := by
      rw [List.map_append]
      exact Ev.addT (Ev.v rfl) (Ev.v rfl) (by rw [List.length_map, List.length_map]; omega)
    have c3 := Ev.eq (g := inD false) (Ev.v (i := 5) (x := x) rfl) ad (inD_any false x _)
    have t := tst2_at (op2_at (g := neD) (z := .bool false) c2 c3 (by rw [hasW_app]; exact neD_bool _))
    exact FP.ifF t (.nx ⟨_, rfl⟩)
  · rintro e ⟨y5, rfl⟩
    exact FP.re (Ev.c []) ⟨_, rfl, rfl, by cases y5 <;> rfl⟩
def L78e (ns : List Int) (g m c : Int) (N : List Str) (y3 y4 : Option Dt) (x5 : Option (List Dt)) (o6 o7 o8 : Option Ow) : Env := [some (.sc ns), some (.own (Dkv g m c)), some (.own (.l (N.map .str))), od y3, od y4, oo x5, o6.map .own, o7.map .own, o8.map .own]
theorem pl_own (x : Option Ow) (e : Env) : plB (x.map A.own :: e) = plB e := by cases x <;> rfl
section
variable {ns : List Int} {g m c : Int} {N : List Str} {y3 y4 : Option Dt} {x5 : Option (List Dt)} {o6 o7 o8 : Option Ow}
theorem pl78 : plB (L78e ns g m c N y3 y4 x5 o6 o7 o8) = true := by
  unfold L78e
  show plB (od y3 :: od y4 :: oo x5 :: o6.map A.own :: o7.map A.own :: o8.map A.own :: []) = true
  rw [pl_od', pl_od', pl_oo, pl_own, pl_own, pl_own]
  rfl
end
theorem sl_mid {n k : Nat} {env : Env} {i : Nat} {W : List Str} (h : env[i]? = some (some (.own (.l (W.map .str))))) : Ev (mD (mSl (mVar i) (mPart (mC (.int (n : Nat)))) (mPart (mC (.int (k : Nat)))))) env (.list ((cutD (W.map PyData.str) (some (n : Int)) (some (k : Int))))) := fun te => by
  have e2 : (A.rf i none).lst? env = some (W.map .str) := by
    show (owAt env i).bind Ow.lst? = _
    unfold owAt
    rw [h]
    rfl
  have e1 : mSl (mVar i) (mPart (mC (.int (n : Nat)))) (mPart (mC (.int (k : Nat)))) env te = .ok (.own (.l (cutD (W.map PyData.str) (some (n : Int)) (some (k : Int))))) env := by
    rw [ev_mSl, mVar_ob (o := .l (W.map .str)) (by unfold owAt; rw [h]), zq00, ek_mSl_0, ev_mPart, Ev.c]
    show (match (A.rf i none).lst? env with | some xs => Rs.ok (A.own (.l (cutD xs (some (n : Int)) (some (k : Int))))) env | none => .bad) = _
    rw [e2]
  rw [ev_mD, e1]
  rfl
theorem law_true : ∀ ns : List Int, ns.length ≤ 63 → ∃ ios, f_law [.sc ns] = .ok (.d (.bool true)) ios := by
  intro ns _
  suffices h : DOk (fun r ios => r = .d (.bool true)) (f_law [.sc ns]) by
    obtain ⟨a, ios, e, rfl⟩ := h.ex
    exact ⟨ios, e⟩
  unfold f_law
  refine run_ok ?_
  unfold m_law
  obtain ⟨g, m, q1⟩ := deck_ok ns
  obtain ⟨N, g1, c1, nl, nd, nn, q2⟩ := names_ok g m 0 9 (by decide)
  have rs := fun g c (n : Nat) hn => right_script_ok g m c (N.take 4) ((N.drop 4).take 3) (by intro h; have := congrArg List.length h; rw [List.length_append, List.length_take, List.length_take, List.length_drop, nl] at this; cases this) (by rw [List.length_append, List.length_take, List.length_take, List.length_drop]; omega) n hn
  have od_ := fun g c => odd_ok g m c
  have sce := @script_error_fn
  have rf := @right_fn
  have si := fun (D : Dt) h => scr_init (D := D) h
  generalize f_deckL = F1 at q1 ⊢
  generalize f_namesL = F2 at q2 ⊢
  generalize f_right_scriptL = F3 at rs ⊢
  generalize f_oddL = F4 at od_ ⊢
  generalize f_script_error = F5 at sce si
  generalize f_Script___init___x = F6 at si ⊢
  generalize f_rightL_v3_x = F7 at rf ⊢
  refine FP.st (e := [some (.sc ns), some (.own (Dkv g m 0)), none, none, none, none, none, none, none]) (by simp! [q1]) ?_
  have k2 := call_io1 (F := noXf F2) (env := [some (.sc ns), some (.own (Dkv g m 0)), none, none, none, none, none, none, none]) (te := []) (i := 1) (o := Dkv g m 0) (xs := [.int 9]) (ms := mCons (mC (.int 9)) mNil) rfl (Evs.cons Ev.c Evs.nil) rfl (noX_ok' q2)
  refine FP.st (e := L78e ns g1 m c1 N none none none none none none) (asg_chg (i := 2) k2 rfl (Nat.le_of_ble_eq_true rfl) rfl (.inr ⟨_, rfl⟩)) ?_
  have cut2 : cutD (N.map PyData.str) (some ((4 : Nat) : Int)) (some ((7 : Nat) : Int)) = ((N.drop 4).take 3).map .str := by
    match N, nl with
    | [_, _, _, _, _, _, _, _, _], _ => rfl
  have nm1 : ∀ z ∈ N.take 4 ++ (N.drop 4).take 3, IsNm z := fun z hz => by
    rcases List.mem_append.mp hz with h | h
    · exact nn z (List.mem_of_mem_take h)
    · exact nn z (List.mem_of_mem_drop (List.mem_of_mem_take h))
  have drawS : ∀ {E : Env} {g c : Int} (n : Nat), n ≤ 12 → owAt E 1 = some (Dkv g m c) → E[2]? = some (some (.own (.l (N.map .str)))) → plB E = true → ∃ (ds : List Dd) (g' c' : Int), ds.length ≤ 12 ∧ (∀ d ∈ ds, d.nm) ∧ (oldS ds).length ≤ 4 ∧ (newS' ds).length ≤ 3 ∧ F5 [.d (.tuple (ds.map Dd.D))] = .ok (.d .none) [.d (.tuple (ds.map Dd.D))] ∧ mCall (noXf F3) [true, false, false, false] (mCons (mVar 1) (mCons (mD (mSl (mVar 2) mNoPart (mPart (mC (.int 4))))) (mCons (mD (mSl (mVar 2) (mPart (mC (.int 4))) (mPart (mC (.int 7))))) (mCons (mC (.int (n : Nat))) mNil)))) E [] = .ok (.d (.tuple (ds.map Dd.D))) (setOw E 1 (.io (Dkv g' m c'))) := fun {E g c} n hn ow e2 pl => by
    obtain ⟨ds, g', c', ld, hds, r1, r2, q⟩ := rs g c n (by omega)
    have hdn : ∀ d ∈ ds, d.nm := fun d h => ⟨nm1 _ (hds d h).1, nm1 _ (hds d h).2⟩
    have ro := rlF_ro ds []
    have e5 : rlF ds ([], []) = (roN false (roF ds []), roN true (roF ds [])) := ro
    rw [e5] at r1 r2
    have o1 : (oldS ds).length ≤ 4 := by unfold oldS; rw [srtS_len]; exact r1
    have o2 : (newS' ds).length ≤ 3 := by unfold newS'; rw [srtS_len]; exact r2
    refine ⟨ds, g', c', by omega, hdn, o1, o2, sce (by omega) hdn o1 o2, ?_⟩
    have x1 : Ev (mD (mSl (mVar 2) mNoPart (mPart (mC (.int 4))))) E (.list ((N.take 4).map .str)) := fun te => by
      have s4 : mSl (mVar 2) mNoPart (mPart (mC (.int 4))) E te = .ok (.own (.l ((N.take 4).map .str))) E := sl_to (n := 4) e2 Ev.c
      rw [ev_mD, s4]
      rfl
    have x2 : Ev (mD (mSl (mVar 2) (mPart (mC (.int 4))) (mPart (mC (.int 7))))) E (.list (((N.drop 4).take 3).map .str)) := fun te => by
      have := sl_mid (n := 4) (k := 7) e2 te
      rw [cut2] at this
      exact this
    exact call_io1 (F := noXf F3) (i := 1) (o := Dkv g m c) (xs := [.list ((N.take 4).map .str), .list (((N.drop 4).take 3).map .str), .int (n : Nat)]) ow (Evs.cons x1 (Evs.cons x2 (Evs.cons Ev.c Evs.nil))) (pl_nest pl rfl) (noX_ok' q)
  obtain ⟨d1, g2, c2, l1, n1, o1, w1, s1, k3⟩ := drawS (E := L78e ns g1 m c1 N none none none none none none) (g := g1) (c := c1) 12 (by decide) rfl rfl pl78
  refine FP.st (e := L78e ns g2 m c2 N (some (.tuple (d1.map Dd.D))) none none none none none) (asg_chg (i := 3) (env' := L78e ns g2 m c2 N none none none none none none) k3 pl78 (Nat.le_of_ble_eq_true rfl) rfl (.inl ⟨_, rfl⟩)) ?_
  obtain ⟨d2, g3, c3, l2, n2, o2, w2, s2, k4⟩ := drawS (E := L78e ns g2 m c2 N (some (.tuple (d1.map Dd.D))) none none none none none) (g := g2) (c := c2) 3 (by decide) rfl rfl pl78
  refine FP.st (e := L78e ns g3 m c3 N (some (.tuple (d1.map Dd.D))) (some (.tuple (d2.map Dd.D))) none none none none) (asg_chg (i := 4) (env' := L78e ns g3 m c3 N (some (.tuple (d1.map Dd.D))) none none none none none) k4 pl78 (Nat.le_of_ble_eq_true rfl) rfl (.inl ⟨_, rfl⟩)) ?_
  have ri1 := fun L => rf (ds := d1) (by omega) n1 (by omega) (by omega) L
  have ri2 := fun L => rf (ds := d2) (by omega) n2 (by omega) (by omega) L
  have ri0 := fun L => rf (ds := []) (by decide) (fun _ h => nomatch h) (by unfold oldS; rw [srtS_len]; decide) (by unfold newS'; rw [srtS_len]; decide) L
  have in1 := si _ s1
  have in2 := si _ s2
  have in0 := si (.tuple []) (sce (ds := []) (by decide) (fun _ h => nomatch h) (by rw [srtS_len]; decide) (by rw [srtS_len]; decide))
  have tp1 : tupD (.tuple (d1.map Dd.D)) = true := tup_deeds d1
  have tp2 : tupD (.tuple (d2.map Dd.D)) = true := tup_deeds d2
  generalize hT1 : PyData.tuple (d1.map Dd.D) = T1 at ri1 in1 tp1 ⊢
  generalize hT2 : PyData.tuple (d2.map Dd.D) = T2 at ri2 in2 tp2 ⊢
  -- the things
  have odds : ∃ (ys : List Dt) (g' c' : Int), ys.length ≤ 4 ∧ mLc .d (mRng1 (mC (.int 4))) (gN 8) mYes (mD (mCall (noXf F4) [true] (mCons (mVar 1) mNil))) [8] (L78e ns g3 m c3 N (some T1) (some T2) none none none none) [.rf 2 none] = .ok (.own (.l ys)) (L78e ns g' m c' N (some T1) (some T2) none none none none) := by
    obtain ⟨ys, e', h1, g', c', hl, rfl⟩ := lc_ok (kd := .d) (mi := mRng1 (mC (.int 4))) (g := gN 8) (tt := mYes) (el := mD (mCall (noXf F4) [true] (mCons (mVar 1) mNil))) (vs := [8]) (env := L78e ns g3 m c3 N (some T1) (some T2) none none none none) (te := [.rf 2 none])
      (fun r acc e => ∃ (g c : Int), acc.length + r.length ≤ 4 ∧ e = L78e ns g m c N (some T1) (some T2) none none none none)
      (rng1_nat (n := 4) (by decide) rfl) rfl ⟨g3, c3, by decide, rfl⟩ (fun _ _ _ _ => rfl) (by
        rintro x r acc e ⟨g, c, hl, rfl⟩
        rw [List.length_cons] at hl
        obtain ⟨v, g', c', hv, p⟩ := od_ g c
        refine ⟨[some (.sc ns), some (.own (Dkv g m c)), some (.own (.l (N.map .str))), some (.d T1), some (.d T2), none, none, none, some (.d x)], rfl, true, _, rfl, fun _ => ⟨v, [some (.sc ns), some (.own (Dkv g' m c')), some (.own (.l (N.map .str))), some (.d T1), some (.d T2), none, none, none, some (.d x)], ?_, ?_, rfl, g', c', ?_, rfl⟩, fun h => (nomatch h)⟩
        · have k := call_io1 (F := noXf F4) (env := [some (.sc ns), some (.own (Dkv g m c)), some (.own (.l (N.map .str))), some (.d T1), some (.d T2), none, none, none, some (.d x)]) (te := .own (.l acc) :: ([] ++ [.rf 2 none])) (i := 1) (o := Dkv g m c) (xs := []) (ms := mNil) rfl Evs.nil rfl (noX_ok' p)
          have k : mCall (noXf F4) [true] (mCons (mVar 1) mNil) [some (.sc ns), some (.own (Dkv g m c)), some (.own (.l (N.map .str))), some (.d T1), some (.d T2), none, none, none, some (.d x)] (.own (.l acc) :: ([] ++ [.rf 2 none])) = _ := k
          rw [ev_mD, k]
          rfl
        · exact big' (by omega)
        · rw [List.length_append, List.length_singleton]
          omega)
    exact ⟨ys, g', c', by simpa using hl, h1⟩
  obtain ⟨ys, g4, c4, yl, k5⟩ := odds
  have k6 := add_var2 (i := 2) (te := []) (xs := N.map .str) (ys := ys) rfl k5 rfl (by rw [List.length_map]; omega)
  have lst : mLst (mCons (mC (.str "cut")) (mCons (mD (mVar 3)) mNil)) (L78e ns g4 m c4 N (some T1) (some T2) none none none none) [.own (.l (N.map .str ++ ys))] = .ok (.own (.l [.str "cut", T1])) (L78e ns g4 m c4 N (some T1) (some T2) none none none none) := lst_ev (Evs.two Ev.c (Ev.d (Ev.v (i := 3) rfl))) (Nat.le_of_ble_eq_true rfl)
  have k7 := add_chg k6 lst (by rw [List.length_append, List.length_map, List.length_cons, List.length_singleton]; omega)
  generalize (N.map PyData.str ++ ys) ++ [.str "cut", T1] = L at k7
  refine FP.st (e := L78e ns g4 m c4 N (some T1) (some T2) (some L) none none none) (asg_chg (i := 5) k7 pl78 (Nat.le_of_ble_eq_true rfl) rfl (.inr ⟨_, rfl⟩)) ?_
  -- the Scripts
  have mk : ∀ {E : Env} {T : Dt} {m0 : ME}, F6 [.io (.x (.ob "Script" [])), .d T] = .ok (.d .none) [scA T, .d T] → Ev m0 E T → ∀ te, mMake "Script" 1 (noXf F6) (mCons m0 mNil) E te = .ok (.own (scO T)) E := fun {E T m0} hi hm te => by
    show (mCons m0 mNil E te).bind _ = _
    rw [Evs.cons hm Evs.nil te, zq00]
    have n3 : noXf F6 (.io (.x (.ob "Script" [])) :: [T].map .d) = .ok (.d .none) [scA T, .d T] := noX_ok' hi
    show (match noXf F6 (.io (.x (.ob "Script" [])) :: [T].map .d) with
        | .ok (.d .none) (.io (.x (.ob c' fs)) :: _) => if c' = "Script" then Rs.ok (A.own (.x (.ob "Script" fs))) E else .bad
        | .ex x _ => .ex x E
        | _ => .bad) = _
    rw [n3]
    exact if_pos rfl
  have pr : mPar 6 7 (mCons (mMake "Script" 1 (noXf F6) (mCons (mD (mVar 3)) mNil)) (mCons (mMake "Script" 1 (noXf F6) (mCons (mD (mVar 4)) mNil)) mNil)) (L78e ns g4 m c4 N (some T1) (some T2) (some L) none none none) [] = .nx (L78e ns g4 m c4 N (some T1) (some T2) (some L) (some (scO T1)) (some (scO T2)) none) := by
    have ec : mCons (mMake "Script" 1 (noXf F6) (mCons (mD (mVar 3)) mNil)) (mCons (mMake "Script" 1 (noXf F6) (mCons (mD (mVar 4)) mNil)) mNil) (L78e ns g4 m c4 N (some T1) (some T2) (some L) none none none) [] = .ok [.own (scO T1), .own (scO T2)] (L78e ns g4 m c4 N (some T1) (some T2) (some L) none none none) := by
      rw [ev_mCons, mk in1 (Ev.d (Ev.v (i := 3) rfl)), zq00, ek_mCons_0, ev_mCons, mk in2 (Ev.d (Ev.v (i := 4) rfl)), zq00, ek_mCons_0]
      rfl
    show Rs.fl (mCons _ _ _ []) _ = _
    rw [ec]
    rfl
  refine FP.st pr ?_
  have rt : ∀ {E : Env} {i : Nat} {T : Dt} {m0 : ME}, tupD T = true → (∀ L, F7 [scA T, .d T, .d (.list L)] = .ok (.d (.bool true)) [scA T, .d T, .d (.list L)]) → E[i]? = some (some (.own (scO T))) → Ev m0 E T → E[5]? = some (some (.own (.l L))) → plB E = true → i ≠ 5 → ∀ te, te.any (isNest i) = false → mCall (noXf F7) [true, false, false] (mCons (mVar i) (mCons m0 (mCons (mVar 5) mNil))) E te = .ok (.d (.bool true)) E := fun {E i T m0} ht hf hi hm h5 pl ne te hte => by
    have ow : owAt E i = some (scO T) := by unfold owAt; rw [hi]
    have ot : (scO T).tup = true := by
      show (tupD T && true) = true
      rw [ht]
      rfl
    have := call_odl (F := F7) (env := E) (te := te) (i := i) (j := 5) (L := L) (t := T) (mt := m0) (x := .bool true) (o := scO T) (o' := scO T) ow ot hm h5 (pl_nest pl hte) ne (setOw_same ow) rfl (hf L)
    exact this
  have t1 := tst2_at (rt (m0 := mVar 4) (i := 7) (E := L78e ns g4 m c4 N (some T1) (some T2) (some L) (some (scO T1)) (some (scO T2)) none) (te := []) tp2 ri2 rfl (Ev.v rfl) rfl pl78 (by decide) rfl)
  have t2 : mLet 8 (mMake "Script" 1 (noXf F6) (mCons (mC (.tuple [])) mNil)) (mCall (noXf F7) [true, false, false] (mCons (mVar 8) (mCons (mTup mNil) (mCons (mVar 5) mNil)))) (L78e ns g4 m c4 N (some T1) (some T2) (some L) (some (scO T1)) (some (scO T2)) none) [] = .ok (.d (.bool true)) (L78e ns g4 m c4 N (some T1) (some T2) (some L) (some (scO T1)) (some (scO T2)) none) := by
    show (mMake "Script" 1 (noXf F6) (mCons (mC (.tuple [])) mNil) _ []).bind _ = _
    rw [mk in0 Ev.c, zq00]
    have g8 : gN 8 (.own (scO (.tuple []))) (L78e ns g4 m c4 N (some T1) (some T2) (some L) (some (scO T1)) (some (scO T2)) none) [] = some (L78e ns g4 m c4 N (some T1) (some T2) (some L) (some (scO T1)) (some (scO T2)) (some (scO (.tuple [])))) := gN_pl pl78 (Nat.le_of_ble_eq_true rfl) rfl (.inr ⟨_, rfl⟩)
    rw [g8]
    dsimp only
    have r := rt (m0 := mTup mNil) (i := 8) (E := L78e ns g4 m c4 N (some T1) (some T2) (some L) (some (scO T1)) (some (scO T2)) (some (scO (.tuple [])))) (te := []) (T := .tuple []) rfl ri0 rfl (Ev.tup Evs.nil (Nat.le_of_ble_eq_true rfl)) rfl pl78 (by decide) rfl
    rw [r, Rs.noX_ok, zq00]
    rfl
  refine FP.sq (FP.ifF (or_ev (a := false) (b := false) (not_ev t1) (fun _ => not_ev (tst2_at t2))) (.nx ?_))
  have r := fun te h => rt (m0 := mVar 3) (i := 6) (E := L78e ns g4 m c4 N (some T1) (some T2) (some L) (some (scO T1)) (some (scO T2)) none) tp1 ri1 rfl (Ev.v rfl) rfl pl78 (by decide) te h
  refine FP.re (a := .d (.bool true)) (e := L78e ns g4 m c4 N (some T1) (some T2) (some L) (some (scO T1)) (some (scO T2)) none) ?_ ⟨_, rfl, rfl⟩
  show Rs.bind (mTst _ _ []) _ = _
  rw [tst2_at (r [] rfl), zq00, if_pos rfl]
  exact r [] rfl
end Tw

namespace Tw
open PySem PySem.Spec PyProof.Rows L2
/-! ### the text by places -/
theorem sc_is_name : FnScope n_is_name ["value"] (defScope s_is_name) := ⟨rfl, rfl, rfl, by decide +kernel, rfl, by decide +kernel, by decide +kernel⟩
theorem sc_deed_error : FnScope n_deed_error ["value"] (defScope s_deed_error) := ⟨rfl, rfl, rfl, by decide +kernel, rfl, by decide +kernel, by decide +kernel⟩
theorem sc_makes : FnScope n_makes ["deed", "k"] (defScope s_makes) := ⟨rfl, rfl, rfl, by decide +kernel, rfl, by decide +kernel, by decide +kernel⟩
theorem sc_roles : FnScope n_roles ["deeds"] (defScope s_roles) := ⟨rfl, rfl, rfl, by decide +kernel, rfl, by decide +kernel, by decide +kernel⟩
theorem sc_new_names : FnScope n_new_names ["script"] (defScope s_new_names) := ⟨rfl, rfl, rfl, by decide +kernel, rfl, by decide +kernel, by decide +kernel⟩
theorem sc_old_names : FnScope n_old_names ["script"] (defScope s_old_names) := ⟨rfl, rfl, rfl, by decide +kernel, rfl, by decide +kernel, by decide +kernel⟩
theorem sc_script_error : FnScope n_script_error ["value"] (defScope s_script_error) := ⟨rfl, rfl, rfl, by decide +kernel, rfl, by decide +kernel, by decide +kernel⟩
theorem sc_Script___init___x : FnScope n_Script___init___x ["self", "deeds"] (defScope s_Script___init___x) := ⟨rfl, rfl, rfl, by decide +kernel, rfl, by decide +kernel, by decide +kernel⟩
theorem sc_deckL : FnScope n_deckL ["_law_script"] (defScope s_deckL) := ⟨rfl, rfl, rfl, by decide +kernel, rfl, by decide +kernel, by decide +kernel⟩
theorem sc_drawL : FnScope n_drawL ["_law_deck_here", "_law_many"] (defScope s_drawL) := ⟨rfl, rfl, rfl, by decide +kernel, rfl, by decide +kernel, by decide +kernel⟩
theorem sc_nameL : FnScope n_nameL ["_law_deck_here"] (defScope s_nameL) := ⟨rfl, rfl, rfl, by decide +kernel, rfl, by decide +kernel, by decide +kernel⟩
theorem sc_namesL : FnScope n_namesL ["_law_deck_here", "_law_many"] (defScope s_namesL) := ⟨rfl, rfl, rfl, by decide +kernel, rfl, by decide +kernel, by decide +kernel⟩
theorem sc_pickL : FnScope n_pickL ["_law_deck_here", "_law_items"] (defScope s_pickL) := ⟨rfl, rfl, rfl, by decide +kernel, rfl, by decide +kernel, by decide +kernel⟩
theorem sc_oddL : FnScope n_oddL ["_law_deck_here"] (defScope s_oddL) := ⟨rfl, rfl, rfl, by decide +kernel, rfl, by decide +kernel, by decide +kernel⟩
theorem sc_Script___contains___x : FnScope n_Script___contains___x ["self", "x"] (defScope s_Script___contains___x) := ⟨rfl, rfl, rfl, by decide +kernel, rfl, by decide +kernel, by decide +kernel⟩
theorem sc_Script___len___x : FnScope n_Script___len___x ["self"] (defScope s_Script___len___x) := ⟨rfl, rfl, rfl, by decide +kernel, rfl, by decide +kernel, by decide +kernel⟩
theorem sc_Script_deeds_x : FnScope n_Script_deeds_x ["self"] (defScope s_Script_deeds_x) := ⟨rfl, rfl, rfl, by decide +kernel, rfl, by decide +kernel, by decide +kernel⟩
theorem sc_Script_new_x : FnScope n_Script_new_x ["self"] (defScope s_Script_new_x) := ⟨rfl, rfl, rfl, by decide +kernel, rfl, by decide +kernel, by decide +kernel⟩
theorem sc_Script_old_x : FnScope n_Script_old_x ["self"] (defScope s_Script_old_x) := ⟨rfl, rfl, rfl, by decide +kernel, rfl, by decide +kernel, by decide +kernel⟩
theorem sc_rolesL : FnScope n_rolesL ["_law_deeds"] (defScope s_rolesL) := ⟨rfl, rfl, rfl, by decide +kernel, rfl, by decide +kernel, by decide +kernel⟩
theorem sc_rightL_v3_x : FnScope n_rightL_v3_x ["_law_found", "_law_deeds", "_law_things"] (defScope s_rightL_v3_x) := ⟨rfl, rfl, rfl, by decide +kernel, rfl, by decide +kernel, by decide +kernel⟩
theorem sc_wordsL : FnScope n_wordsL [] (defScope s_wordsL) := ⟨rfl, rfl, rfl, by decide +kernel, rfl, by decide +kernel, by decide +kernel⟩
theorem sc_some_deedL_v1 : FnScope n_some_deedL_v1 ["_law_deck_here", "_law_names_here"] (defScope s_some_deedL_v1) := ⟨rfl, rfl, rfl, by decide +kernel, rfl, by decide +kernel, by decide +kernel⟩
theorem sc_right_scriptL : FnScope n_right_scriptL ["_law_deck_here", "_law_old", "_law_new", "_law_most"] (defScope s_right_scriptL) := ⟨rfl, rfl, rfl, by decide +kernel, rfl, by decide +kernel, by decide +kernel⟩
theorem sc_law : FnScope n_law ["_law_script"] (defScope s_law) := ⟨rfl, rfl, rfl, by decide +kernel, rfl, by decide +kernel, by decide +kernel⟩
def ni_BadScript : List Str := ["self", "error"]
theorem sci_BadScript : FnScope ni_BadScript ["self", "error"] (defScope si_BadScript) := ⟨rfl, rfl, rfl, by decide +kernel, rfl, by decide +kernel, by decide +kernel⟩
structure Tx (K : PySem.W.Frag) (mg : Str → Option Value) : Prop where
  z_abs : mg "abs" = none
  z_all : mg "all" = none
  z_enumerate : mg "enumerate" = none
  z_int : mg "int" = none
  z_isinstance : mg "isinstance" = none
  z_len : mg "len" = none
  z_range : mg "range" = none
  z_sorted : mg "sorted" = none
  z_str : mg "str" = none
  z_tuple : mg "tuple" = none
  g_LETTERS : ∃ u, mg "LETTERS" = some u ∧ RelV (.str "abcdefghijklmnopqrstuvwxyz") u
  g_MAX_DEEDS : ∃ u, mg "MAX_DEEDS" = some u ∧ RelV (.int 12) u
  g_MAX_LETTERS : ∃ u, mg "MAX_LETTERS" = some u ∧ RelV (.int 8) u
  g_MAX_NEW : ∃ u, mg "MAX_NEW" = some u ∧ RelV (.int 3) u
  g_MAX_OLD : ∃ u, mg "MAX_OLD" = some u ∧ RelV (.int 4) u
  g_SINGLE : ∃ u, mg "SINGLE" = some u ∧ RelV (.ref (He.ga K "SINGLE")) u
  n_SINGLE : ∀ H, TupN K H (He.ga K "SINGLE") (Tw.g_SINGLE.map V.str)
  g_WORDS : ∃ u, mg "WORDS" = some u ∧ RelV (.ref (He.ga K "WORDS")) u
  n_WORDS : ∀ H, TupN K H (He.ga K "WORDS") (Tw.g_WORDS.map V.str)
  d_Script___init___x : ∃ fd, FunD K "__init__" "Script.__init__" (defArgs s_Script___init___x) (defBody s_Script___init___x) (defScope s_Script___init___x) [.ref (He.dflAt ("Script", some "__init__") 0 K)] [] (He.ma K (He.ga K "Script") "__init__") fd
  mm_Script___init___x : Meth K (He.ga K "Script") "__init__" (He.ma K (He.ga K "Script") "__init__")
  d_Script___contains___x : ∃ fd, FunD K "__contains__" "Script.__contains__" (defArgs s_Script___contains___x) (defBody s_Script___contains___x) (defScope s_Script___contains___x) [] [] (He.ma K (He.ga K "Script") "__contains__") fd
  mm_Script___contains___x : Meth K (He.ga K "Script") "__contains__" (He.ma K (He.ga K "Script") "__contains__")
  d_Script___len___x : ∃ fd, FunD K "__len__" "Script.__len__" (defArgs s_Script___len___x) (defBody s_Script___len___x) (defScope s_Script___len___x) [] [] (He.ma K (He.ga K "Script") "__len__") fd
  mm_Script___len___x : Meth K (He.ga K "Script") "__len__" (He.ma K (He.ga K "Script") "__len__")
  d_Script_deeds_x : ∃ fd, FunD K "deeds" "Script.deeds" (defArgs s_Script_deeds_x) (defBody s_Script_deeds_x) (defScope s_Script_deeds_x) [] [] (pgA K "Script" "deeds") fd
  mm_Script_deeds_x : PropOf K (He.ga K "Script") "deeds" (ppA K "Script" "deeds") (pgA K "Script" "deeds")
  d_Script_new_x : ∃ fd, FunD K "new" "Script.new" (defArgs s_Script_new_x) (defBody s_Script_new_x) (defScope s_Script_new_x) [] [] (pgA K "Script" "new") fd
  mm_Script_new_x : PropOf K (He.ga K "Script") "new" (ppA K "Script" "new") (pgA K "Script" "new")
  d_Script_old_x : ∃ fd, FunD K "old" "Script.old" (defArgs s_Script_old_x) (defBody s_Script_old_x) (defScope s_Script_old_x) [] [] (pgA K "Script" "old") fd
  mm_Script_old_x : PropOf K (He.ga K "Script") "old" (ppA K "Script" "old") (pgA K "Script" "old")
  cl_Script : Cls K (He.ga K "Script")
  d_is_name : DefAt K mg "is_name" s_is_name
  d_deed_error : DefAt K mg "deed_error" s_deed_error
  d_makes : DefAt K mg "makes" s_makes
  d_roles : DefAt K mg "roles" s_roles
  d_new_names : DefAt K mg "new_names" s_new_names
  d_old_names : DefAt K mg "old_names" s_old_names
  d_script_error : DefAt K mg "script_error" s_script_error
  d_deckL : DefAt K mg "_law_deck" s_deckL
  d_drawL : DefAt K mg "_law_draw" s_drawL
  d_nameL : DefAt K mg "_law_name" s_nameL
  d_namesL : DefAt K mg "_law_names" s_namesL
  d_pickL : DefAt K mg "_law_pick" s_pickL
  d_oddL : DefAt K mg "_law_odd" s_oddL
  d_rolesL : DefAt K mg "_law_roles" s_rolesL
  d_rightL_v3_x : DefAt K mg "_law_right" s_rightL_v3_x
  d_wordsL : DefAt K mg "_law_words" s_wordsL
  d_some_deedL_v1 : DefAt K mg "_law_some_deed" s_some_deedL_v1
  d_right_scriptL : DefAt K mg "_law_right_script" s_right_scriptL
  d_law : DefAt K mg "law" s_law
  xg_BadScript : mg "BadScript" = some (.ref (He.ga K "BadScript"))
  xg_Script : mg "Script" = some (.ref (He.ga K "Script"))
  x_BadScript : OexC K (He.ga K "BadScript")
  xi_BadScript : Meth K (He.ga K "BadScript") "__init__" (He.ma K (He.ga K "BadScript") "__init__")
  xd_BadScript : ∃ fd, FunD K "__init__" "BadScript.__init__" (defArgs si_BadScript) (defBody si_BadScript) (defScope si_BadScript) [] [] (He.ma K (He.ga K "BadScript") "__init__") fd
  iso_Script_Script : IsO K "Script" (He.ga K "Script") true
  mk_Script : Mk K (He.ga K "Script") (He.ma K (He.ga K "Script") "__init__")
  of_Script_row : ObC K "Script" "row"
  xn_BadScript_error : PySem.W.findIn K (.ref (He.ga K "BadScript")) "error" = some none
  xs_df_Script___init___x : emT K (He.dflAt ("Script", some "__init__") 0 K) = true
section
variable {P : Program} {w : World} {K : PySem.W.Frag} {mg : Str → Option Value} {base : Heap}
theorem ini_BadScript (T : Tx K mg) : IniX P w K mg base "BadScript" (spI1 K "error") := by
  refine ini_of (ps := ["self", "error"]) (t := tI1 K "error") T.xg_BadScript T.x_BadScript T.xi_BadScript T.xd_BadScript (fun _ _ _ _ _ _ us hl => match us, hl with | [_, _], _ => rfl) sci_BadScript (fun vs H Q E h => ?_) (fun cdv f A outer s H E hr => ?_) (fun vs H Q E h => pureI1 (N := ni_BadScript) rfl vs H Q E h)
  · obtain ⟨_, _, _, rfl, _⟩ := h; rfl
  · exact (pss_one (ps_ost (pv 0) (pv 1)))
theorem ok_is_name (T : Tx K mg) : Cal P w K mg base 1 "is_name" (spN (kw P w K) f_is_name 1) := by
  refine cal_of (t := t_is_name (kw P w K)) T.d_is_name (fun _ _ _ _ _ _ us hl => match us, hl with | [_], _ => rfl) sc_is_name (fun vs H Q E h => h.1) (fun cdv f A outer s H E hr => ?_) (fun vs H Q E h => pure_of (N := n_is_name) (m := m_is_name) (fun B W => ss_is_name) vs H Q E h.2)
  exact (pss_cons (ps_if (PW.pt (pw_or (pt_not (pt_val (pe_callB call_isi (by rfl) T.z_isinstance (by decide +kernel) (pa_cons (pv 0) (pa_cons (pe_bltn (by rfl) T.z_str (by decide +kernel) rfl) pa_nil))))) (pw_or1 (pt_not (pt_chain op_le op_le pe_int (pe_callB call_lenU (by rfl) T.z_len (by decide +kernel) (pa_cons (pv 0) pa_nil)) (pe_gc (by rfl) T.g_MAX_LETTERS)))))) (pss_one (ps_ret pe_bl)) pss_nil)
      (pss_one (ps_ret (pe_callB (cr_all rfl) (by rfl) T.z_all (by decide +kernel) (pa_cons (pe_lc (own := [("sign", 1)]) (by rfl) sc_is_name.nd (pi_seq (pv 0)) (blkOk_by (own := [("sign", 1)]) (N := n_is_name) (sc := defScope s_is_name) (by decide +kernel)) (fun _ _ _ _ _ => (pg_name (i := 1) sc_is_name.nd rfl (Or.inl rfl))) (fun _ _ _ _ _ => pts_nil) (fun _ _ _ _ _ => (pe_cmpR (op_inU hr) (pv 1) (pe_gc (by rfl) T.g_LETTERS) rfl))) pa_nil)))))
theorem ok_deed_error (T : Tx K mg) (c_is_name : Cal P w K mg base 1 "is_name" (spN (kw P w K) f_is_name 1)) : Cal P w K mg base 2 "deed_error" (spN (kw P w K) f_deed_error 1) := by
  refine cal_of (t := t_deed_error (kw P w K)) T.d_deed_error (fun _ _ _ _ _ _ us hl => match us, hl with | [_], _ => rfl) sc_deed_error (fun vs H Q E h => h.1) (fun cdv f A outer s H E hr => ?_) (fun vs H Q E h => pure_of (N := n_deed_error) (m := m_deed_error) (fun B W => ss_deed_error T.n_SINGLE T.n_WORDS) vs H Q E h.2)
  exact (pss_cons (ps_if (PW.pt (pw_or (pt_not (pt_val (pe_callB call_isi (by rfl) T.z_isinstance (by decide +kernel) (pa_cons (pv 0) (pa_cons (pe_bltn (by rfl) T.z_tuple (by decide +kernel) rfl) pa_nil))))) (pw_or (pt_cmpR (op_eqU hr) (pv 0) (pe_tupF pa_nil) (nomark _)) (pw_or1 (pt_cmpR (op_notInU hr) (pe_ix ix_seq (pv 0) pe_int (fun _ _ => rfl)) (pe_gc (by rfl) T.g_WORDS) rfl))))) (pss_one (ps_ret pe_str)) pss_nil)
      (pss_cons (ps_if (pt_cmpR (op_neU hr) (pe_callB call_lenU (by rfl) T.z_len (by decide +kernel) (pa_cons (pv 0) pa_nil)) (pe_ifExp (pt_cmpR (op_inU hr) (pe_ix ix_seq (pv 0) pe_int (fun _ _ => rfl)) (pe_gc (by rfl) T.g_SINGLE) rfl) pe_int pe_int) (nomark _)) (pss_one (ps_ret pe_str)) pss_nil)
      (pss_one (ps_ret (pe_ifExp (pt_val (pe_callB (cr_all rfl) (by rfl) T.z_all (by decide +kernel) (pa_cons (pe_lc (own := [("item", 1)]) (by rfl) sc_deed_error.nd (pi_seq (pe_slice sl_U (pv 0) (po_some pe_int) po_none)) (blkOk_by (own := [("item", 1)]) (N := n_deed_error) (sc := defScope s_deed_error) (by decide +kernel)) (fun _ _ _ _ _ => (pg_name (i := 1) sc_deed_error.nd rfl (Or.inl rfl))) (fun _ _ _ _ _ => pts_nil) (fun _ _ _ _ _ => (pe_c c_is_name hr (by decide) (by rfl) (pa_cons (pv 1) pa_nil)))) pa_nil))) pe_non pe_str)))))
theorem ok_makes (T : Tx K mg) : Cal P w K mg base 1 "makes" (spN (kw P w K) f_makes 2) := by
  refine cal_of (t := t_makes (kw P w K)) T.d_makes (fun _ _ _ _ _ _ us hl => match us, hl with | [_, _], _ => rfl) sc_makes (fun vs H Q E h => h.1) (fun cdv f A outer s H E hr => ?_) (fun vs H Q E h => pure_of (N := n_makes) (m := m_makes) (fun B W => ss_makes) vs H Q E h.2)
  exact (pss_one (ps_ret (pe_or (pe_and (pe_cmpR (op_eqU hr) (pe_ix ix_seq (pv 0) pe_int (fun _ _ => rfl)) pe_str (nomark _)) (pe_one (pe_cmpR (op_eqU hr) (pv 1) pe_int (nomark _)))) (pe_one (pe_and (pe_cmpR (op_eqU hr) (pe_ix ix_seq (pv 0) pe_int (fun _ _ => rfl)) pe_str (nomark _)) (pe_one (pe_cmpR (op_eqU hr) (pv 1) pe_int (nomark _))))))))
theorem ok_roles (T : Tx K mg) (c_makes : Cal P w K mg base 1 "makes" (spN (kw P w K) f_makes 2)) : Cal P w K mg base 2 "roles" (spN (kw P w K) f_roles 1) := by
  refine cal_of (t := t_roles (kw P w K)) T.d_roles (fun _ _ _ _ _ _ us hl => match us, hl with | [_], _ => rfl) sc_roles (fun vs H Q E h => h.1) (fun cdv f A outer s H E hr => ?_) (fun vs H Q E h => pure_of (N := n_roles) (m := m_roles) (fun B W => ss_roles) vs H Q E h.2)
  exact (pss_cons (ps_set (i := 1) sc_roles.nd rfl (Or.inl rfl) pe_dnewK)
      (pss_cons (ps_for PassesOwn.never rfl (pi_seq (pv 0)) (pg_name (i := 2) sc_roles.nd rfl (Or.inl rfl)) (pss_one (ps_for PassesOwn.never rfl (pi_enumT (by rfl) T.z_enumerate (pa_cons (pv 2) pa_nil)) (pg_tup rfl (pgs_cons (pg_name (i := 3) sc_roles.nd rfl (Or.inl rfl)) (pgs_cons (pg_name (i := 4) sc_roles.nd rfl (Or.inl rfl)) pgs_nil))) (pss_one (ps_if (pt_cmpR op_gt (pv 3) pe_int (nomark _)) (pss_one (ps_expr (pe_dsetd (pv 1) (pv 4) (pe_c c_makes hr (by decide) (by rfl) (pa_cons (pv 2) (pa_cons (pv 3) pa_nil))) ⟨rfl, rfl, rfl, rfl⟩))) pss_nil)))))
      (pss_one (ps_ret (pv 1)))))
theorem ok_new_names (T : Tx K mg) (c_roles : Cal P w K mg base 2 "roles" (spN (kw P w K) f_roles 1)) : Cal P w K mg base 3 "new_names" (spN (kw P w K) f_new_names 1) := by
  refine cal_of (t := t_new_names (kw P w K)) T.d_new_names (fun _ _ _ _ _ _ us hl => match us, hl with | [_], _ => rfl) sc_new_names (fun vs H Q E h => h.1) (fun cdv f A outer s H E hr => ?_) (fun vs H Q E h => pure_of (N := n_new_names) (m := m_new_names) (fun B W => ss_new_names) vs H Q E h.2)
  exact (pss_one (ps_ret (pe_callTy call_tupleF (by rfl) T.z_tuple (by decide +kernel) (pa_cons (pe_callB cr_sortedS (by rfl) T.z_sorted (by decide +kernel) (pa_cons (pe_lc (own := [("name", 1), ("is_new", 2)]) (by rfl) sc_new_names.nd (pi_itemsF (pe_c c_roles hr (by decide) (by rfl) (pa_cons (pv 0) pa_nil))) (blkOk_by (own := [("name", 1), ("is_new", 2)]) (N := n_new_names) (sc := defScope s_new_names) (by decide +kernel)) (fun _ _ _ _ _ => (pg_tup rfl (pgs_cons (pg_name (i := 1) sc_new_names.nd rfl (Or.inl rfl)) (pgs_cons (pg_name (i := 2) sc_new_names.nd rfl (Or.inl rfl)) pgs_nil)))) (fun _ _ _ _ _ => (pts_one (pt_val (pv 2)))) (fun _ _ _ _ _ => (pv 1))) pa_nil)) pa_nil))))
theorem ok_old_names (T : Tx K mg) (c_roles : Cal P w K mg base 2 "roles" (spN (kw P w K) f_roles 1)) : Cal P w K mg base 3 "old_names" (spN (kw P w K) f_old_names 1) := by
  refine cal_of (t := t_old_names (kw P w K)) T.d_old_names (fun _ _ _ _ _ _ us hl => match us, hl with | [_], _ => rfl) sc_old_names (fun vs H Q E h => h.1) (fun cdv f A outer s H E hr => ?_) (fun vs H Q E h => pure_of (N := n_old_names) (m := m_old_names) (fun B W => ss_old_names) vs H Q E h.2)
  exact (pss_one (ps_ret (pe_callTy call_tupleF (by rfl) T.z_tuple (by decide +kernel) (pa_cons (pe_callB cr_sortedS (by rfl) T.z_sorted (by decide +kernel) (pa_cons (pe_lc (own := [("name", 1), ("is_new", 2)]) (by rfl) sc_old_names.nd (pi_itemsF (pe_c c_roles hr (by decide) (by rfl) (pa_cons (pv 0) pa_nil))) (blkOk_by (own := [("name", 1), ("is_new", 2)]) (N := n_old_names) (sc := defScope s_old_names) (by decide +kernel)) (fun _ _ _ _ _ => (pg_tup rfl (pgs_cons (pg_name (i := 1) sc_old_names.nd rfl (Or.inl rfl)) (pgs_cons (pg_name (i := 2) sc_old_names.nd rfl (Or.inl rfl)) pgs_nil)))) (fun _ _ _ _ _ => (pts_one (pt_not (pt_val (pv 2))))) (fun _ _ _ _ _ => (pv 1))) pa_nil)) pa_nil))))
theorem ok_script_error (T : Tx K mg) (c_deed_error : Cal P w K mg base 2 "deed_error" (spN (kw P w K) f_deed_error 1)) (c_new_names : Cal P w K mg base 3 "new_names" (spN (kw P w K) f_new_names 1)) (c_old_names : Cal P w K mg base 3 "old_names" (spN (kw P w K) f_old_names 1)) : Cal P w K mg base 4 "script_error" (spN (kw P w K) f_script_error 1) := by
  refine cal_of (t := t_script_error (kw P w K)) T.d_script_error (fun _ _ _ _ _ _ us hl => match us, hl with | [_], _ => rfl) sc_script_error (fun vs H Q E h => h.1) (fun cdv f A outer s H E hr => ?_) (fun vs H Q E h => pure_of (N := n_script_error) (m := m_script_error) (fun B W => ss_script_error) vs H Q E h.2)
  exact (pss_cons (ps_if (PW.pt (pw_or (pt_not (pt_val (pe_callB call_isi (by rfl) T.z_isinstance (by decide +kernel) (pa_cons (pv 0) (pa_cons (pe_bltn (by rfl) T.z_tuple (by decide +kernel) rfl) pa_nil))))) (pw_or1 (pt_cmpR op_gt (pe_callB call_lenU (by rfl) T.z_len (by decide +kernel) (pa_cons (pv 0) pa_nil)) (pe_gc (by rfl) T.g_MAX_DEEDS) (nomark _))))) (pss_one (ps_ret (pe_tupF (pa_cons pe_non (pa_cons pe_str pa_nil))))) pss_nil)
      (pss_cons (ps_for PassesOwn.never rfl (pi_enumT (by rfl) T.z_enumerate (pa_cons (pv 0) pa_nil)) (pg_tup rfl (pgs_cons (pg_name (i := 1) sc_script_error.nd rfl (Or.inl rfl)) (pgs_cons (pg_name (i := 2) sc_script_error.nd rfl (Or.inl rfl)) pgs_nil))) (pss_cons (ps_set (i := 3) sc_script_error.nd rfl (Or.inl rfl) (pe_c c_deed_error hr (by decide) (by rfl) (pa_cons (pv 2) pa_nil)))
      (pss_one (ps_if (pt_cmpR op_notN1 (pv 3) pe_non (nomark _)) (pss_one (ps_ret (pe_tupF (pa_cons (pv 1) (pa_cons (pv 3) pa_nil))))) pss_nil))))
      (pss_cons (ps_if (pt_cmpR op_gt (pe_callB call_lenU (by rfl) T.z_len (by decide +kernel) (pa_cons (pe_c c_old_names hr (by decide) (by rfl) (pa_cons (pv 0) pa_nil)) pa_nil)) (pe_gc (by rfl) T.g_MAX_OLD) (nomark _)) (pss_one (ps_ret (pe_tupF (pa_cons pe_non (pa_cons pe_str pa_nil))))) pss_nil)
      (pss_one (ps_ret (pe_ifExp (pt_cmpR op_gt (pe_callB call_lenU (by rfl) T.z_len (by decide +kernel) (pa_cons (pe_c c_new_names hr (by decide) (by rfl) (pa_cons (pv 0) pa_nil)) pa_nil)) (pe_gc (by rfl) T.g_MAX_NEW) (nomark _)) (pe_tupF (pa_cons pe_non (pa_cons pe_str pa_nil))) pe_non))))))
theorem ok_Script___init___x (T : Tx K mg) (c_script_error : Cal P w K mg base 4 "script_error" (spN (kw P w K) f_script_error 1)) : MetD P w K mg base 5 "Script" "__init__" (spN (kw P w K) f_Script___init___x 2) [.ref (He.dflAt ("Script", some "__init__") 0 K)] := by
  refine metD_of (n := 1) (ps := ["self", "deeds"]) (t := fun W => t_Script___init___x W (kw P w K)) T.cl_Script T.mm_Script___init___x T.d_Script___init___x (List.cons_ne_nil _ _) rfl (fun T kV doc pm an cdv ct us its h1 h2 => by
    match us, its, h1, h2 with
    | [_, _], [_], _, _ => exact ⟨_, rfl, rfl⟩) (fun T kV doc pm an cdv ct us its h1 h2 => by
    match us, its, h1, h2 with
    | [_], [_], _, _ => exact ⟨_, rfl, rfl⟩) sc_Script___init___x (fun vs H Q E h => h.1) (fun cdv f A outer s H E hr tk po => ?_) (fun vs H Q E h => pure_ofX (N := n_Script___init___x) (m := m_Script___init___x) (t := fun W => t_Script___init___x W (kw P w K)) (fun B W => ss_Script___init___x T.of_Script_row T.x_BadScript T.xn_BadScript_error) vs H Q E h.2)
  exact (pss_cons (ps_set (i := 2) sc_Script___init___x.nd rfl (Or.inl rfl) (pe_c c_script_error hr (by decide) (by rfl) (pa_cons (pv 1) pa_nil)))
      (pss_cons (ps_if (pt_cmpR op_notN1 (pv 2) pe_non (nomark _)) (pss_one (ps_raiseO (ini_BadScript T) rfl tk hr (by decide) (by rfl) (pa_cons (pv 2) pa_nil))) pss_nil)
      (pss_one (ps_fld (pv 0) (pv 1) (by rfl)))))
theorem ok_deckL (T : Tx K mg) : Cal P w K mg base 1 "_law_deck" (spN (kw P w K) f_deckL 1) := by
  refine cal_of (t := t_deckL (kw P w K)) T.d_deckL (fun _ _ _ _ _ _ us hl => match us, hl with | [_], _ => rfl) sc_deckL (fun vs H Q E h => h.1) (fun cdv f A outer s H E hr => ?_) (fun vs H Q E h => pure_of (N := n_deckL) (m := m_deckL) (fun B W => ss_deckL) vs H Q E h.2)
  exact (pss_cons (ps_par (by rfl) sc_deckL.nd rfl rfl (by decide) rfl rfl (pa_cons pe_int (pa_cons (pe_op op_addU pe_int (pe_op op_mulU pe_int (pe_callB call_lenU (by rfl) T.z_len (by decide +kernel) (pa_cons (pv 0) pa_nil)))) pa_nil)) (by rfl))
      (pss_cons (ps_for PassesOwn.never rfl (pi_seq (pe_slice sl_U (pv 0) po_none (po_some pe_int))) (pg_name (i := 3) sc_deckL.nd rfl (Or.inl rfl)) (pss_cons (ps_set (i := 4) sc_deckL.nd rfl (Or.inl rfl) (pe_op op_addU (pe_op op_addU (pe_op op_mulU pe_int (pe_callB call_abs (by rfl) T.z_abs (by decide +kernel) (pa_cons (pv 3) pa_nil))) (pe_callTy call_int1 (by rfl) T.z_int (by decide +kernel) (pa_cons (pe_cmpR op_ltU (pv 3) pe_int (nomark _)) pa_nil))) pe_int))
      (pss_cons (ps_set (i := 2) sc_deckL.nd rfl (Or.inl rfl) (pe_op op_mod (pe_callTy call_int1 (by rfl) T.z_int (by decide +kernel) (pa_cons (pe_op op_addU (pe_op op_mulU (pv 2) pe_int) (pv 4)) pa_nil)) pe_int))
      (pss_one (ps_if (pt_cmpR op_ge (pe_callB call_abs (by rfl) T.z_abs (by decide +kernel) (pa_cons (pv 3) pa_nil)) (pe_op op_pow pe_int pe_int) (nomark _)) (pss_one (ps_set (i := 1) sc_deckL.nd rfl (Or.inl rfl) (pe_op op_addU (pe_op op_mulU (pv 1) pe_int) (pe_callB call_abs (by rfl) T.z_abs (by decide +kernel) (pa_cons (pv 3) pa_nil))))) pss_nil)))))
      (pss_one (ps_ret (pe_lst (pa_cons (pv 1) (pa_cons (pv 2) (pa_cons pe_int pa_nil))))))))
theorem ok_drawL (T : Tx K mg) : Cal P w K mg base 1 "_law_draw" (spN (kw P w K) f_drawL 2) := by
  refine cal_of (t := t_drawL (kw P w K)) T.d_drawL (fun _ _ _ _ _ _ us hl => match us, hl with | [_, _], _ => rfl) sc_drawL (fun vs H Q E h => h.1) (fun cdv f A outer s H E hr => ?_) (fun vs H Q E h => pure_of (N := n_drawL) (m := m_drawL) (fun B W => ss_drawL) vs H Q E h.2)
  exact (pss_cons (ps_if (pt_cmpR op_gt (pe_ix ix_seq (pv 0) pe_int (fun _ _ => rfl)) pe_int (nomark _)) (pss_cons (ps_set (i := 2) sc_drawL.nd rfl (Or.inl rfl) (pe_op op_mod (pe_callTy call_int1 (by rfl) T.z_int (by decide +kernel) (pa_cons (pe_ix ix_seq (pv 0) pe_int (fun _ _ => rfl)) pa_nil)) (pv 1)))
      (pss_cons (ps_asg (pe_op op_fdiv (pe_ix ix_seq (pv 0) pe_int (fun _ _ => rfl)) (pv 1)) (pg_sub (pv 0) pe_int set_list))
      (pss_one (ps_ret (pv 2))))) pss_nil)
      (pss_cons (ps_asg (pe_op op_addU (pe_ix ix_seq (pv 0) pe_int (fun _ _ => rfl)) pe_int) (pg_sub (pv 0) pe_int set_list))
      (pss_cons (ps_set (i := 3) sc_drawL.nd rfl (Or.inl rfl) (pe_op op_mod (pe_callTy call_int1 (by rfl) T.z_int (by decide +kernel) (pa_cons (pe_op op_addU (pe_ix ix_seq (pv 0) pe_int (fun _ _ => rfl)) (pe_op op_mulU pe_int (pe_ix ix_seq (pv 0) pe_int (fun _ _ => rfl)))) pa_nil)) pe_int))
      (pss_cons (ps_set (i := 3) sc_drawL.nd rfl (Or.inl rfl) (pe_op op_mod (pe_callTy call_int1 (by rfl) T.z_int (by decide +kernel) (pa_cons (pe_op op_mulU (pv 3) (pe_op op_addU (pe_op op_mod (pv 3) pe_int) pe_int)) pa_nil)) pe_int))
      (pss_one (ps_ret (pe_op op_mod (pe_op op_fdiv (pe_op op_mod (pe_callTy call_int1 (by rfl) T.z_int (by decide +kernel) (pa_cons (pe_op op_mulU (pv 3) (pv 3)) pa_nil)) pe_int) pe_int) (pv 1))))))))
theorem ok_nameL (T : Tx K mg) (c_drawL : Cal P w K mg base 1 "_law_draw" (spN (kw P w K) f_drawL 2)) : Cal P w K mg base 2 "_law_name" (spN (kw P w K) f_nameL 1) := by
  refine cal_of (t := t_nameL (kw P w K)) T.d_nameL (fun _ _ _ _ _ _ us hl => match us, hl with | [_], _ => rfl) sc_nameL (fun vs H Q E h => h.1) (fun cdv f A outer s H E hr => ?_) (fun vs H Q E h => pure_of (N := n_nameL) (m := m_nameL) (fun B W => ss_nameL) vs H Q E h.2)
  exact (pss_cons (ps_set (i := 1) sc_nameL.nd rfl (Or.inr rfl) pe_str)
      (pss_one (ps_ret (pe_join pe_str (pe_lc (own := [("_law_k", 2)]) (by rfl) sc_nameL.nd (pi_range1 (by rfl) T.z_range (pa_cons (pe_op op_addU pe_int (pe_c c_drawL hr (by decide) (by rfl) (pa_cons (pv 0) (pa_cons pe_int pa_nil)))) pa_nil)) (blkOk_by (own := [("_law_k", 2)]) (N := n_nameL) (sc := defScope s_nameL) (by decide +kernel)) (fun _ _ _ _ _ => (pg_name (i := 2) sc_nameL.nd rfl (Or.inl rfl))) (fun _ _ _ _ _ => pts_nil) (fun _ _ _ _ _ => (pe_ix ix_seq (pv 1) (pe_c c_drawL hr (by decide) (by rfl) (pa_cons (pv 0) (pa_cons pe_int pa_nil))) (fun _ _ => rfl))))))))
theorem ok_namesL (T : Tx K mg) (c_drawL : Cal P w K mg base 1 "_law_draw" (spN (kw P w K) f_drawL 2)) (c_nameL : Cal P w K mg base 2 "_law_name" (spN (kw P w K) f_nameL 1)) : Cal P w K mg base 3 "_law_names" (spN (kw P w K) f_namesL 2) := by
  refine cal_of (t := t_namesL (kw P w K)) T.d_namesL (fun _ _ _ _ _ _ us hl => match us, hl with | [_, _], _ => rfl) sc_namesL (fun vs H Q E h => h.1) (fun cdv f A outer s H E hr => ?_) (fun vs H Q E h => pure_of (N := n_namesL) (m := m_namesL) (fun B W => ss_namesL) vs H Q E h.2)
  exact (pss_cons (ps_set (i := 2) sc_namesL.nd rfl (Or.inr rfl) pe_str)
      (pss_cons (ps_setLc (i := 3) (own := [("_law_k", 9)]) (by rfl) sc_namesL.nd rfl rfl (sw_true rfl rfl rfl (by decide +kernel)) (pi_range1 (by rfl) T.z_range (pa_cons pe_int pa_nil)) (blkOk_by (own := [("_law_k", 9)]) (N := n_namesL) (sc := defScope s_namesL) (by decide +kernel)) (fun _ _ _ _ _ => (pg_name (i := 9) sc_namesL.nd rfl (Or.inl rfl))) (fun _ _ _ _ _ => pts_nil) (fun _ _ _ _ _ => (pe_op op_addU (pe_ix ix_seq (pv 2) (pe_op op_fdiv (pv 9) pe_int) (fun _ _ => rfl)) (pe_ix ix_seq (pv 2) (pe_op op_mod (pv 9) pe_int) (fun _ _ => rfl)))))
      (pss_cons (ps_par (by rfl) sc_namesL.nd rfl rfl (by decide) rfl rfl (pa_cons (pe_c c_drawL hr (by decide) (by rfl) (pa_cons (pv 0) (pa_cons pe_int pa_nil))) (pa_cons (pe_slice sl_U (pe_op op_mulU (pe_c c_nameL hr (by decide) (by rfl) (pa_cons (pv 0) pa_nil)) pe_int) po_none (po_some pe_int)) pa_nil)) (by rfl))
      (pss_cons (ps_par3 (by rfl) sc_namesL.nd rfl rfl rfl (by decide) (by decide) (by decide) rfl rfl rfl (pa_cons (pe_c c_drawL hr (by decide) (by rfl) (pa_cons (pv 0) (pa_cons pe_int pa_nil))) (pa_cons pe_int (pa_cons (pe_lst pa_nil) pa_nil))) (by rfl))
      (pss_cons (ps_for PassesOwn.never rfl (pi_range1 (by rfl) T.z_range (pa_cons (pv 1) pa_nil)) (pg_name (i := 9) sc_namesL.nd rfl (Or.inl rfl)) (pss_cons (ps_set (i := 10) sc_namesL.nd rfl (Or.inl rfl) (pe_ifExp (pt_cmpR (op_eqU hr) (pv 4) pe_int (nomark _)) (pe_c c_drawL hr (by decide) (by rfl) (pa_cons (pv 0) (pa_cons pe_int pa_nil))) (pv 4)))
      (pss_cons (ps_if (pt_cmpR (op_eqU hr) (pv 10) pe_int (nomark _)) (pss_one (ps_set (i := 11) sc_namesL.nd rfl (Or.inl rfl) (pe_c c_nameL hr (by decide) (by rfl) (pa_cons (pv 0) pa_nil)))) (pss_one (ps_if (pt_cmpR (op_eqU hr) (pv 10) pe_int (nomark _)) (pss_one (ps_set (i := 11) sc_namesL.nd rfl (Or.inl rfl) (pe_op op_addU (pe_op op_addU (pe_slice sl_U (pv 5) po_none (po_some (pv 6))) (pe_ix ix_seq (pv 2) (pe_c c_drawL hr (by decide) (by rfl) (pa_cons (pv 0) (pa_cons pe_int pa_nil))) (fun _ _ => rfl))) (pe_slice sl_U (pv 5) (po_some (pe_op op_addU (pv 6) pe_int)) po_none)))) (pss_one (ps_set (i := 11) sc_namesL.nd rfl (Or.inl rfl) (pe_slice sl_U (pv 5) po_none (po_some (pe_op op_addU pe_int (pe_c c_drawL hr (by decide) (by rfl) (pa_cons (pv 0) (pa_cons pe_int pa_nil)))))))))))
      (pss_cons (ps_while PassesOwn.never (pt_cmpR (op_inU hr) (pv 11) (pv 8) rfl) (pss_cons (ps_set (i := 11) sc_namesL.nd rfl (Or.inl rfl) (pe_ix ix_seq (pv 3) (pv 7) (fun _ _ => rfl)))
      (pss_one (ps_set (i := 7) sc_namesL.nd rfl (Or.inl rfl) (pe_op op_addU (pv 7) pe_int)))))
      (pss_one (ps_expr (pe_bm PySem.F.plainAttrs_list PySem.F.slot_list_append PySem.F.type_list_append mt_append (pv 8) (pa_cons (pv 11) pa_nil))))))))
      (pss_one (ps_ret (pv 8))))))))
theorem ok_pickL (T : Tx K mg) (c_drawL : Cal P w K mg base 1 "_law_draw" (spN (kw P w K) f_drawL 2)) : Cal P w K mg base 2 "_law_pick" (spN (kw P w K) f_pickL 2) := by
  refine cal_of (t := t_pickL (kw P w K)) T.d_pickL (fun _ _ _ _ _ _ us hl => match us, hl with | [_, _], _ => rfl) sc_pickL (fun vs H Q E h => h.1) (fun cdv f A outer s H E hr => ?_) (fun vs H Q E h => pure_of (N := n_pickL) (m := m_pickL) (fun B W => ss_pickL) vs H Q E h.2)
  exact (pss_one (ps_ret (pe_ix ix_seq (pv 1) (pe_c c_drawL hr (by decide) (by rfl) (pa_cons (pv 0) (pa_cons (pe_callB call_lenU (by rfl) T.z_len (by decide +kernel) (pa_cons (pv 1) pa_nil)) pa_nil))) (fun _ _ => rfl))))
theorem ok_oddL (T : Tx K mg) (c_pickL : Cal P w K mg base 2 "_law_pick" (spN (kw P w K) f_pickL 2)) : Cal P w K mg base 3 "_law_odd" (spN (kw P w K) f_oddL 1) := by
  refine cal_of (t := t_oddL (kw P w K)) T.d_oddL (fun _ _ _ _ _ _ us hl => match us, hl with | [_], _ => rfl) sc_oddL (fun vs H Q E h => h.1) (fun cdv f A outer s H E hr => ?_) (fun vs H Q E h => pure_of (N := n_oddL) (m := m_oddL) (fun B W => ss_oddL) vs H Q E h.2)
  exact (pss_cons (ps_set (i := 1) sc_oddL.nd rfl (Or.inl rfl) (pe_lst (pa_cons pe_non (pa_cons pe_bl (pa_cons pe_bl (pa_cons pe_int (pa_cons pe_int (pa_cons (pe_op op_sub pe_int pe_int) (pa_cons (pe_op op_pow pe_int pe_int) (pa_cons pe_str (pa_cons pe_str (pa_cons pe_str (pa_cons pe_str (pa_cons pe_str (pa_cons pe_str (pa_cons pe_str (pa_cons pe_str pa_nil)))))))))))))))))
      (pss_cons (ps_set (i := 1) sc_oddL.nd rfl (Or.inl rfl) (pe_op op_addU (pv 1) (pe_lst (pa_cons pe_str (pa_cons pe_str (pa_cons pe_str (pa_cons pe_str (pa_cons (pe_lst (pa_cons pe_str (pa_cons (pe_tupF pa_nil) pa_nil))) (pa_cons (pe_disp (pps_cons pe_str pe_int (pps_cons pe_str pe_int pps_nil)) (by rfl) (by rfl) (fun z => by cases z) (by decide)) pa_nil)))))))))
      (pss_cons (ps_set (i := 1) sc_oddL.nd rfl (Or.inl rfl) (pe_op op_addU (pv 1) (pe_lst (pa_cons (pe_tupF (pa_cons pe_str pa_nil)) (pa_cons (pe_tupF (pa_cons pe_str (pa_cons (pe_tupF pa_nil) pa_nil))) (pa_cons (pe_lst (pa_cons pe_str pa_nil)) (pa_cons (pe_lst pa_nil) (pa_cons pe_dnewK (pa_cons (pe_disp (pps_cons pe_str pe_int pps_nil) (by rfl) (by rfl) (fun z => by cases z) (by decide)) (pa_cons (pe_tupF pa_nil) (pa_cons (pe_tupF (pa_cons (pe_tupF pa_nil) (pa_cons (pe_tupF pa_nil) pa_nil))) (pa_cons (pe_tupF (pa_cons (pe_tupF (pa_cons pe_str (pa_cons (pe_tupF pa_nil) pa_nil))) pa_nil)) (pa_cons pe_str pa_nil)))))))))))))
      (pss_one (ps_ret (pe_c c_pickL hr (by decide) (by rfl) (pa_cons (pv 0) (pa_cons (pv 1) pa_nil))))))))
theorem ok_Script___contains___x (T : Tx K mg) (c_new_names : Cal P w K mg base 3 "new_names" (spN (kw P w K) f_new_names 1)) (c_old_names : Cal P w K mg base 3 "old_names" (spN (kw P w K) f_old_names 1)) : MetX P w K mg base 4 "Script" "__contains__" (spN (kw P w K) f_Script___contains___x 2) := by
  refine metX_of (t := fun W => t_Script___contains___x W (kw P w K)) T.cl_Script T.mm_Script___contains___x T.d_Script___contains___x (fun _ _ _ _ _ _ us hl => match us, hl with | [_, _], _ => rfl) sc_Script___contains___x (fun vs H Q E h => h.1) (fun cdv f A outer s H E hr tk po => ?_) (fun vs H Q E h => pure_ofX (N := n_Script___contains___x) (m := m_Script___contains___x) (t := fun W => t_Script___contains___x W (kw P w K)) (fun B W => ss_Script___contains___x T.of_Script_row) vs H Q E h.2)
  exact (pss_one (ps_ret (pe_or (pe_cmpR (op_inU hr) (pv 1) (pe_c c_old_names hr (by decide) (by rfl) (pa_cons (pe_fld (pv 0) (by rfl)) pa_nil)) rfl) (pe_one (pe_cmpR (op_inU hr) (pv 1) (pe_c c_new_names hr (by decide) (by rfl) (pa_cons (pe_fld (pv 0) (by rfl)) pa_nil)) rfl)))))
theorem ok_Script___len___x (T : Tx K mg) : MetX P w K mg base 1 "Script" "__len__" (spN (kw P w K) f_Script___len___x 1) := by
  refine metX_of (t := fun W => t_Script___len___x W (kw P w K)) T.cl_Script T.mm_Script___len___x T.d_Script___len___x (fun _ _ _ _ _ _ us hl => match us, hl with | [_], _ => rfl) sc_Script___len___x (fun vs H Q E h => h.1) (fun cdv f A outer s H E hr tk po => ?_) (fun vs H Q E h => pure_ofX (N := n_Script___len___x) (m := m_Script___len___x) (t := fun W => t_Script___len___x W (kw P w K)) (fun B W => ss_Script___len___x T.of_Script_row) vs H Q E h.2)
  exact (pss_one (ps_ret (pe_callB call_lenU (by rfl) T.z_len (by decide +kernel) (pa_cons (pe_fld (pv 0) (by rfl)) pa_nil))))
theorem ok_Script_deeds_x (T : Tx K mg) : PrpX P w K mg base 1 "Script" "deeds" (spN (kw P w K) f_Script_deeds_x 1) := by
  refine prpX_of (t := fun W => t_Script_deeds_x W (kw P w K)) T.cl_Script T.mm_Script_deeds_x T.d_Script_deeds_x (fun _ _ _ _ _ _ us hl => match us, hl with | [_], _ => rfl) sc_Script_deeds_x (fun vs H Q E h => h.1) (fun cdv f A outer s H E hr tk po => ?_) (fun vs H Q E h => pure_ofX (N := n_Script_deeds_x) (m := m_Script_deeds_x) (t := fun W => t_Script_deeds_x W (kw P w K)) (fun B W => ss_Script_deeds_x T.of_Script_row) vs H Q E h.2)
  exact (pss_one (ps_ret (pe_fld (pv 0) (by rfl))))
theorem ok_Script_new_x (T : Tx K mg) (c_new_names : Cal P w K mg base 3 "new_names" (spN (kw P w K) f_new_names 1)) : PrpX P w K mg base 4 "Script" "new" (spN (kw P w K) f_Script_new_x 1) := by
  refine prpX_of (t := fun W => t_Script_new_x W (kw P w K)) T.cl_Script T.mm_Script_new_x T.d_Script_new_x (fun _ _ _ _ _ _ us hl => match us, hl with | [_], _ => rfl) sc_Script_new_x (fun vs H Q E h => h.1) (fun cdv f A outer s H E hr tk po => ?_) (fun vs H Q E h => pure_ofX (N := n_Script_new_x) (m := m_Script_new_x) (t := fun W => t_Script_new_x W (kw P w K)) (fun B W => ss_Script_new_x T.of_Script_row) vs H Q E h.2)
  exact (pss_one (ps_ret (pe_c c_new_names hr (by decide) (by rfl) (pa_cons (pe_fld (pv 0) (by rfl)) pa_nil))))
theorem ok_Script_old_x (T : Tx K mg) (c_old_names : Cal P w K mg base 3 "old_names" (spN (kw P w K) f_old_names 1)) : PrpX P w K mg base 4 "Script" "old" (spN (kw P w K) f_Script_old_x 1) := by
  refine prpX_of (t := fun W => t_Script_old_x W (kw P w K)) T.cl_Script T.mm_Script_old_x T.d_Script_old_x (fun _ _ _ _ _ _ us hl => match us, hl with | [_], _ => rfl) sc_Script_old_x (fun vs H Q E h => h.1) (fun cdv f A outer s H E hr tk po => ?_) (fun vs H Q E h => pure_ofX (N := n_Script_old_x) (m := m_Script_old_x) (t := fun W => t_Script_old_x W (kw P w K)) (fun B W => ss_Script_old_x T.of_Script_row) vs H Q E h.2)
  exact (pss_one (ps_ret (pe_c c_old_names hr (by decide) (by rfl) (pa_cons (pe_fld (pv 0) (by rfl)) pa_nil))))
theorem ok_rolesL (T : Tx K mg) : Cal P w K mg base 1 "_law_roles" (spN (kw P w K) f_rolesL 1) := by
  refine cal_of (t := t_rolesL (kw P w K)) T.d_rolesL (fun _ _ _ _ _ _ us hl => match us, hl with | [_], _ => rfl) sc_rolesL (fun vs H Q E h => h.1) (fun cdv f A outer s H E hr => ?_) (fun vs H Q E h => pure_of (N := n_rolesL) (m := m_rolesL) (fun B W => ss_rolesL) vs H Q E h.2)
  exact (pss_cons (ps_par (by rfl) sc_rolesL.nd rfl rfl (by decide) rfl rfl (pa_cons (pe_lst pa_nil) (pa_cons (pe_lst pa_nil) pa_nil)) (by rfl))
      (pss_cons (ps_for PassesOwn.never rfl (pi_seq (pv 0)) (pg_name (i := 3) sc_rolesL.nd rfl (Or.inl rfl)) (pss_cons (ps_set (i := 4) sc_rolesL.nd rfl (Or.inl rfl) (pe_dget2 (hu_of hr) (pe_disp (pps_cons pe_str pe_int (pps_cons pe_str pe_int pps_nil)) (by rfl) (by rfl) (fun z => by cases z) (by decide)) (pe_ix ix_seq (pv 3) pe_int (fun _ _ => rfl)) pe_int ⟨rfl, rfl, rfl, rfl⟩))
      (pss_one (ps_for PassesOwn.never rfl (pi_range2 (by rfl) T.z_range (pa_cons pe_int (pa_cons (pe_callB call_lenU (by rfl) T.z_len (by decide +kernel) (pa_cons (pv 3) pa_nil)) pa_nil))) (pg_name (i := 5) sc_rolesL.nd rfl (Or.inl rfl)) (pss_one (ps_if (pt_cmpR (op_notInU hr) (pe_ix ix_seq (pv 3) (pv 5) (fun _ _ => rfl)) (pe_op op_addU (pv 1) (pv 2)) rfl) (pss_one (ps_if (pt_cmpR (op_eqU hr) (pv 5) (pv 4) (nomark _)) (pss_one (ps_expr (pe_bm PySem.F.plainAttrs_list PySem.F.slot_list_append PySem.F.type_list_append mt_append (pv 2) (pa_cons (pe_ix ix_seq (pv 3) (pv 5) (fun _ _ => rfl)) pa_nil)))) (pss_one (ps_expr (pe_bm PySem.F.plainAttrs_list PySem.F.slot_list_append PySem.F.type_list_append mt_append (pv 1) (pa_cons (pe_ix ix_seq (pv 3) (pv 5) (fun _ _ => rfl)) pa_nil)))))) pss_nil))))))
      (pss_one (ps_ret (pe_tupF (pa_cons (pe_callTy call_tupleF (by rfl) T.z_tuple (by decide +kernel) (pa_cons (pe_callB cr_sortedS (by rfl) T.z_sorted (by decide +kernel) (pa_cons (pv 1) pa_nil)) pa_nil)) (pa_cons (pe_callTy call_tupleF (by rfl) T.z_tuple (by decide +kernel) (pa_cons (pe_callB cr_sortedS (by rfl) T.z_sorted (by decide +kernel) (pa_cons (pv 2) pa_nil)) pa_nil)) pa_nil)))))))
theorem ok_rightL_v3_x (T : Tx K mg) (c_Script___contains___x : MetX P w K mg base 4 "Script" "__contains__" (spN (kw P w K) f_Script___contains___x 2)) (c_Script___len___x : MetX P w K mg base 1 "Script" "__len__" (spN (kw P w K) f_Script___len___x 1)) (c_Script_deeds_x : PrpX P w K mg base 1 "Script" "deeds" (spN (kw P w K) f_Script_deeds_x 1)) (c_Script_new_x : PrpX P w K mg base 4 "Script" "new" (spN (kw P w K) f_Script_new_x 1)) (c_Script_old_x : PrpX P w K mg base 4 "Script" "old" (spN (kw P w K) f_Script_old_x 1)) (c_rolesL : Cal P w K mg base 1 "_law_roles" (spN (kw P w K) f_rolesL 1)) : CalG P w K mg base 6 "_law_right" (spN (kw P w K) f_rightL_v3_x 3) := by
  refine calG_of (t := t_rightL_v3_x (kw P w K)) T.d_rightL_v3_x (fun _ _ _ _ _ _ us hl => match us, hl with | [_, _, _], _ => rfl) sc_rightL_v3_x (fun vs H Q E h => h.1) (fun cdv f A outer s H E hrG => have hr := hrG.rm; ?_) (fun vs H Q E h => pure_of (N := n_rightL_v3_x) (m := m_rightL_v3_x) (fun B W => ss_rightL_v3_x T.iso_Script_Script) vs H Q E h.2)
  exact (pss_cons (ps_asg (pe_c c_rolesL hr (by decide) (by rfl) (pa_cons (pv 1) pa_nil)) (pg_tup rfl (pgs_cons (pg_name (i := 3) sc_rightL_v3_x.nd rfl (Or.inl rfl)) (pgs_cons (pg_name (i := 4) sc_rightL_v3_x.nd rfl (Or.inl rfl)) pgs_nil))))
      (pss_cons (ps_if (PW.pt (pw_or (pt_not (pt_val (pe_callB call_isi (by rfl) T.z_isinstance (by decide +kernel) (pa_cons (pv 0) (pa_cons (pe_gc (v := (.ref (He.ga K "Script"))) (by rfl) ⟨_, T.xg_Script, rfl⟩) pa_nil))))) (pw_or (pt_cmpR (op_neU hr) (pe_prp0 c_Script_deeds_x hr (by decide) (pv 0)) (pv 1) (nomark _)) (pw_or (pt_cmpR (op_neU hr) (pe_prp0 c_Script_old_x hr (by decide) (pv 0)) (pv 3) (nomark _)) (pw_or1 (pt_cmpR (op_neU hr) (pe_prp0 c_Script_new_x hr (by decide) (pv 0)) (pv 4) (nomark _))))))) (pss_one (ps_ret pe_bl)) pss_nil)
      (pss_cons (ps_if (pt_cmpR (op_neU hr) (pe_callB (call_lenO c_Script___len___x hr (by decide)) (by rfl) T.z_len (by decide +kernel) (pa_cons (pv 0) pa_nil)) (pe_callB call_lenU (by rfl) T.z_len (by decide +kernel) (pa_cons (pv 1) pa_nil)) (nomark _)) (pss_one (ps_ret pe_bl)) pss_nil)
      (pss_cons (ps_for PassesOwn.never rfl (pi_seq (pv 2)) (pg_name (i := 5) sc_rightL_v3_x.nd rfl (Or.inl rfl)) (pss_one (ps_if (pt_cmpR (op_neU hr) (pe_cmpR (op_inO c_Script___contains___x hr (by decide)) (pv 5) (pv 0) rfl) (pe_cmpR (op_inU hr) (pv 5) (pe_op op_addU (pv 3) (pv 4)) rfl) (nomark _)) (pss_one (ps_ret pe_bl)) pss_nil)))
      (pss_one (ps_ret pe_bl))))))
theorem ok_wordsL (T : Tx K mg) : Cal P w K mg base 1 "_law_words" (spN (kw P w K) f_wordsL 0) := by
  refine cal_of (t := t_wordsL (kw P w K)) T.d_wordsL (fun _ _ _ _ _ _ us hl => match us, hl with | [], _ => rfl) sc_wordsL (fun vs H Q E h => h.1) (fun cdv f A outer s H E hr => ?_) (fun vs H Q E h => pure_of (N := n_wordsL) (m := m_wordsL) (fun B W => ss_wordsL) vs H Q E h.2)
  exact (pss_cons (ps_set (i := 0) sc_wordsL.nd rfl (Or.inl rfl) (pe_lst (pa_cons pe_str (pa_cons pe_str (pa_cons pe_str (pa_cons pe_str (pa_cons pe_str (pa_cons pe_str (pa_cons pe_str pa_nil)))))))))
      (pss_one (ps_ret (pe_op op_addU (pv 0) (pe_lst (pa_cons pe_str (pa_cons pe_str (pa_cons pe_str (pa_cons pe_str (pa_cons pe_str (pa_cons pe_str pa_nil)))))))))))
theorem ok_some_deedL_v1 (T : Tx K mg) (c_pickL : Cal P w K mg base 2 "_law_pick" (spN (kw P w K) f_pickL 2)) (c_wordsL : Cal P w K mg base 1 "_law_words" (spN (kw P w K) f_wordsL 0)) : Cal P w K mg base 3 "_law_some_deed" (spN (kw P w K) f_some_deedL_v1 2) := by
  refine cal_of (t := t_some_deedL_v1 (kw P w K)) T.d_some_deedL_v1 (fun _ _ _ _ _ _ us hl => match us, hl with | [_, _], _ => rfl) sc_some_deedL_v1 (fun vs H Q E h => h.1) (fun cdv f A outer s H E hr => ?_) (fun vs H Q E h => pure_of (N := n_some_deedL_v1) (m := m_some_deedL_v1) (fun B W => ss_some_deedL_v1) vs H Q E h.2)
  exact (pss_cons (ps_set (i := 2) sc_some_deedL_v1.nd rfl (Or.inl rfl) (pe_c c_pickL hr (by decide) (by rfl) (pa_cons (pv 0) (pa_cons (pe_c0 c_wordsL hr (by decide) (by rfl)) pa_nil))))
      (pss_cons (ps_if (pt_cmpR (op_inU hr) (pv 2) (pe_tupF (pa_cons pe_str (pa_cons pe_str (pa_cons pe_str (pa_cons pe_str pa_nil))))) rfl) (pss_one (ps_ret (pe_tupF (pa_cons (pv 2) (pa_cons (pe_c c_pickL hr (by decide) (by rfl) (pa_cons (pv 0) (pa_cons (pv 1) pa_nil))) pa_nil))))) pss_nil)
      (pss_one (ps_ret (pe_tupF (pa_cons (pv 2) (pa_cons (pe_c c_pickL hr (by decide) (by rfl) (pa_cons (pv 0) (pa_cons (pv 1) pa_nil))) (pa_cons (pe_c c_pickL hr (by decide) (by rfl) (pa_cons (pv 0) (pa_cons (pv 1) pa_nil))) pa_nil))))))))
theorem ok_right_scriptL (T : Tx K mg) (c_drawL : Cal P w K mg base 1 "_law_draw" (spN (kw P w K) f_drawL 2)) (c_pickL : Cal P w K mg base 2 "_law_pick" (spN (kw P w K) f_pickL 2)) (c_rolesL : Cal P w K mg base 1 "_law_roles" (spN (kw P w K) f_rolesL 1)) (c_some_deedL_v1 : Cal P w K mg base 3 "_law_some_deed" (spN (kw P w K) f_some_deedL_v1 2)) : Cal P w K mg base 4 "_law_right_script" (spN (kw P w K) f_right_scriptL 4) := by
  refine cal_of (t := t_right_scriptL (kw P w K)) T.d_right_scriptL (fun _ _ _ _ _ _ us hl => match us, hl with | [_, _, _, _], _ => rfl) sc_right_scriptL (fun vs H Q E h => h.1) (fun cdv f A outer s H E hr => ?_) (fun vs H Q E h => pure_of (N := n_right_scriptL) (m := m_right_scriptL) (fun B W => ss_right_scriptL) vs H Q E h.2)
  exact (pss_cons (ps_set (i := 4) sc_right_scriptL.nd rfl (Or.inl rfl) (pe_tupF pa_nil))
      (pss_cons (ps_set (i := 5) sc_right_scriptL.nd rfl (Or.inr rfl) (pe_op op_addU (pv 1) (pv 2)))
      (pss_cons (ps_for PassesOwn.never rfl (pi_range1 (by rfl) T.z_range (pa_cons (pe_c c_drawL hr (by decide) (by rfl) (pa_cons (pv 0) (pa_cons (pe_op op_addU (pv 3) pe_int) pa_nil))) pa_nil)) (pg_name (i := 6) sc_right_scriptL.nd rfl (Or.inl rfl)) (pss_cons (ps_set (i := 7) sc_right_scriptL.nd rfl (Or.inl rfl) (pe_c c_some_deedL_v1 hr (by decide) (by rfl) (pa_cons (pv 0) (pa_cons (pe_lc (own := [("_law_j", 10)]) (by rfl) sc_right_scriptL.nd (pi_range1 (by rfl) T.z_range (pa_cons pe_int pa_nil)) (blkOk_by (own := [("_law_j", 10)]) (N := n_right_scriptL) (sc := defScope s_right_scriptL) (by decide +kernel)) (fun _ _ _ _ _ => (pg_name (i := 10) sc_right_scriptL.nd rfl (Or.inl rfl))) (fun _ _ _ _ _ => pts_nil) (fun _ _ _ _ _ => (pe_c c_pickL hr (by decide) (by rfl) (pa_cons (pv 0) (pa_cons (pv 5) pa_nil))))) pa_nil))))
      (pss_cons (ps_if (PW.pt (pw_and (pt_cmpR (op_notInU hr) (pe_ix ix_seq (pv 7) pe_int (fun _ _ => rfl)) (pe_tupF (pa_cons pe_str (pa_cons pe_str pa_nil))) rfl) (pw_and (pt_cmpR (op_eqU hr) (pe_c c_drawL hr (by decide) (by rfl) (pa_cons (pv 0) (pa_cons pe_int pa_nil))) pe_int (nomark _)) (pw_and1 (pt_cmpR (op_neU hr) (pv 2) (pe_lst pa_nil) (nomark _)))))) (pss_cons (ps_set (i := 8) sc_right_scriptL.nd rfl (Or.inl rfl) (pe_c c_pickL hr (by decide) (by rfl) (pa_cons (pv 0) (pa_cons (pv 2) pa_nil))))
      (pss_one (ps_set (i := 7) sc_right_scriptL.nd rfl (Or.inl rfl) (pe_c c_pickL hr (by decide) (by rfl) (pa_cons (pv 0) (pa_cons (pe_lst (pa_cons (pe_tupF (pa_cons pe_str (pa_cons (pe_ix ix_seq (pv 7) pe_int (fun _ _ => rfl)) (pa_cons (pv 8) pa_nil)))) (pa_cons (pe_tupF (pa_cons pe_str (pa_cons (pv 8) (pa_cons (pe_ix ix_seq (pv 7) pe_int (fun _ _ => rfl)) pa_nil)))) pa_nil))) pa_nil)))))) pss_nil)
      (pss_cons (ps_set (i := 9) sc_right_scriptL.nd rfl (Or.inl rfl) (pe_c c_rolesL hr (by decide) (by rfl) (pa_cons (pe_op op_addU (pv 4) (pe_tupF (pa_cons (pv 7) pa_nil))) pa_nil)))
      (pss_one (ps_if (PW.pt (pw_and (pt_cmpR op_ltU (pe_callB call_lenU (by rfl) T.z_len (by decide +kernel) (pa_cons (pe_ix ix_seq (pv 9) pe_int (fun _ _ => rfl)) pa_nil)) pe_int (nomark _)) (pw_and1 (pt_cmpR op_ltU (pe_callB call_lenU (by rfl) T.z_len (by decide +kernel) (pa_cons (pe_ix ix_seq (pv 9) pe_int (fun _ _ => rfl)) pa_nil)) pe_int (nomark _))))) (pss_one (ps_set (i := 4) sc_right_scriptL.nd rfl (Or.inl rfl) (pe_op op_addU (pv 4) (pe_tupF (pa_cons (pv 7) pa_nil))))) pss_nil))))))
      (pss_one (ps_ret (pv 4))))))
theorem ok_law (T : Tx K mg) (c_Script___init___x : MetD P w K mg base 5 "Script" "__init__" (spN (kw P w K) f_Script___init___x 2) [.ref (He.dflAt ("Script", some "__init__") 0 K)]) (c_deckL : Cal P w K mg base 1 "_law_deck" (spN (kw P w K) f_deckL 1)) (c_namesL : Cal P w K mg base 3 "_law_names" (spN (kw P w K) f_namesL 2)) (c_oddL : Cal P w K mg base 3 "_law_odd" (spN (kw P w K) f_oddL 1)) (c_rightL_v3_x : CalG P w K mg base 6 "_law_right" (spN (kw P w K) f_rightL_v3_x 3)) (c_right_scriptL : Cal P w K mg base 4 "_law_right_script" (spN (kw P w K) f_right_scriptL 4)) {f : Addr} {fd : FuncData} (F : FunD K "law" "law" (defArgs s_law) (defBody s_law) (defScope s_law) [] [] f fd) : FnG P w K mg base CX0 7 f fd ["_law_script"] (sp_law K) := by
  refine funD_okG F sc_law (fun vs H Q E h => ?_) (fun cdv A outer s H vs Q E hrG h => have hr := hrG.rm; ⟨t_law (kw P w K), PSs.nox ?_, pure_of (N := n_law) (m := m_law) (fun B W => ss_law T.mk_Script T.xs_df_Script___init___x) vs H Q E (law_pure law_true vs H Q E h)⟩)
  · obtain ⟨_, _, rfl, _⟩ := h; rfl
  · exact (pss_cons (ps_set (i := 1) sc_law.nd rfl (Or.inr rfl) (pe_c c_deckL hr (by decide) (by rfl) (pa_cons (pv 0) pa_nil)))
      (pss_cons (ps_set (i := 2) sc_law.nd rfl (Or.inl rfl) (pe_c c_namesL hr (by decide) (by rfl) (pa_cons (pv 1) (pa_cons pe_int pa_nil))))
      (pss_cons (ps_set (i := 3) sc_law.nd rfl (Or.inl rfl) (pe_c c_right_scriptL hr (by decide) (by rfl) (pa_cons (pv 1) (pa_cons (pe_slice sl_U (pv 2) po_none (po_some pe_int)) (pa_cons (pe_slice sl_U (pv 2) (po_some pe_int) (po_some pe_int)) (pa_cons pe_int pa_nil))))))
      (pss_cons (ps_set (i := 4) sc_law.nd rfl (Or.inl rfl) (pe_c c_right_scriptL hr (by decide) (by rfl) (pa_cons (pv 1) (pa_cons (pe_slice sl_U (pv 2) po_none (po_some pe_int)) (pa_cons (pe_slice sl_U (pv 2) (po_some pe_int) (po_some pe_int)) (pa_cons pe_int pa_nil))))))
      (pss_cons (ps_set (i := 5) sc_law.nd rfl (Or.inl rfl) (pe_op op_addU (pe_op op_addU (pv 2) (pe_lc (own := [("_law_k", 8)]) (by rfl) sc_law.nd (pi_range1 (by rfl) T.z_range (pa_cons pe_int pa_nil)) (blkOk_by (own := [("_law_k", 8)]) (N := n_law) (sc := defScope s_law) (by decide +kernel)) (fun _ _ _ _ _ => (pg_name (i := 8) sc_law.nd rfl (Or.inl rfl))) (fun _ _ _ _ _ => pts_nil) (fun _ _ _ _ _ => (pe_c c_oddL hr (by decide) (by rfl) (pa_cons (pv 1) pa_nil))))) (pe_lst (pa_cons pe_str (pa_cons (pv 3) pa_nil)))))
      (pss_cons (ps_par (by rfl) sc_law.nd rfl rfl (by decide) rfl rfl (pa_cons (pe_makeX0 (makX_of T.xg_Script T.mk_Script c_Script___init___x.met) hr (by decide) (by rfl) (pa_cons (pv 3) pa_nil)) (pa_cons (pe_makeX0 (makX_of T.xg_Script T.mk_Script c_Script___init___x.met) hr (by decide) (by rfl) (pa_cons (pv 4) pa_nil)) pa_nil)) (by rfl))
      (pss_cons (ps_if (PW.pt (pw_or (pt_not (pt_val (pe_cg c_rightL_v3_x hrG (by decide) (by rfl) (pa_cons (pv 7) (pa_cons (pv 4) (pa_cons (pv 5) pa_nil)))))) (pw_or1 (pt_not (pt_val (pe_cg c_rightL_v3_x hrG (by decide) (by rfl) (pa_cons (pe_makeD0 c_Script___init___x T.xg_Script T.mk_Script hr (by decide) (by rfl)) (pa_cons (pe_tupF pa_nil) (pa_cons (pv 5) pa_nil))))))))) (pss_one (ps_ret pe_bl)) pss_nil)
      (pss_one (ps_ret (pe_and (pe_cg c_rightL_v3_x hrG (by decide) (by rfl) (pa_cons (pv 6) (pa_cons (pv 3) (pa_cons (pv 5) pa_nil)))) (pe_one (pe_cg c_rightL_v3_x hrG (by decide) (by rfl) (pa_cons (pv 6) (pa_cons (pv 3) (pa_cons (pv 5) pa_nil)))))))))))))))
theorem ok_all (T : Tx K mg) {f : Addr} {fd : FuncData} (F : FunD K "law" "law" (defArgs s_law) (defBody s_law) (defScope s_law) [] [] f fd) : FnG P w K mg base CX0 7 f fd ["_law_script"] (sp_law K) := by
  have c_is_name := ok_is_name (P := P) (w := w) (base := base) T
  have c_deed_error := ok_deed_error (P := P) (w := w) (base := base) T c_is_name
  have c_makes := ok_makes (P := P) (w := w) (base := base) T
  have c_roles := ok_roles (P := P) (w := w) (base := base) T c_makes
  have c_new_names := ok_new_names (P := P) (w := w) (base := base) T c_roles
  have c_old_names := ok_old_names (P := P) (w := w) (base := base) T c_roles
  have c_script_error := ok_script_error (P := P) (w := w) (base := base) T c_deed_error c_new_names c_old_names
  have c_Script___init___x := ok_Script___init___x (P := P) (w := w) (base := base) T c_script_error
  have c_deckL := ok_deckL (P := P) (w := w) (base := base) T
  have c_drawL := ok_drawL (P := P) (w := w) (base := base) T
  have c_nameL := ok_nameL (P := P) (w := w) (base := base) T c_drawL
  have c_namesL := ok_namesL (P := P) (w := w) (base := base) T c_drawL c_nameL
  have c_pickL := ok_pickL (P := P) (w := w) (base := base) T c_drawL
  have c_oddL := ok_oddL (P := P) (w := w) (base := base) T c_pickL
  have c_Script___contains___x := ok_Script___contains___x (P := P) (w := w) (base := base) T c_new_names c_old_names
  have c_Script___len___x := ok_Script___len___x (P := P) (w := w) (base := base) T
  have c_Script_deeds_x := ok_Script_deeds_x (P := P) (w := w) (base := base) T
  have c_Script_new_x := ok_Script_new_x (P := P) (w := w) (base := base) T c_new_names
  have c_Script_old_x := ok_Script_old_x (P := P) (w := w) (base := base) T c_old_names
  have c_rolesL := ok_rolesL (P := P) (w := w) (base := base) T
  have c_rightL_v3_x := ok_rightL_v3_x (P := P) (w := w) (base := base) T c_Script___contains___x c_Script___len___x c_Script_deeds_x c_Script_new_x c_Script_old_x c_rolesL
  have c_wordsL := ok_wordsL (P := P) (w := w) (base := base) T
  have c_some_deedL_v1 := ok_some_deedL_v1 (P := P) (w := w) (base := base) T c_pickL c_wordsL
  have c_right_scriptL := ok_right_scriptL (P := P) (w := w) (base := base) T c_drawL c_pickL c_rolesL c_some_deedL_v1
  exact ok_law T c_Script___init___x c_deckL c_namesL c_oddL c_rightL_v3_x c_right_scriptL F
end
/-! ### the head -/
theorem obD_eq (s : PySem.W.SharedT) : obD s = hkD.obs s.abs := obsPG_eq (HandSHeadRun.getT_eq s)
theorem facts {P : Program} {w : World} {K : PySem.W.Frag} {h : Heap} {mg : Str → Option Value} {f : Addr} (X : K.In h) (G : h.Ns mainGlobals mg) (hfa : mg ("law" : Str) = some (.ref f)) (c : SaysP chkD faD fnD psD K) :
    ∃ fd : FuncData, (∀ (s : Shared) (v : Value), BindsTo s fd ⟨[v], []⟩ [("_law_script", v)]) ∧ ∀ base : Heap, K.In base → base.Ns mainGlobals mg → FnG P w K mg base CX0 7 f fd ["_law_script"] (sp_law K) := by
  obtain ⟨hp_Script_deeds_x, fd_Script_deeds_x, F_Script_deeds_x⟩ := c.prop 0 (d := pd_Script_deeds_x) rfl
  obtain ⟨hp_Script_new_x, fd_Script_new_x, F_Script_new_x⟩ := c.prop 1 (d := pd_Script_new_x) rfl
  obtain ⟨hp_Script_old_x, fd_Script_old_x, F_Script_old_x⟩ := c.prop 2 (d := pd_Script_old_x) rfl
  obtain ⟨fd_is_name, F_is_name⟩ := c.d.def_ 0 (d := dd_is_name) rfl
  have g_is_name := He.glo_ok X G (c.d.fact 0 (f := .glo "is_name") rfl)
  obtain ⟨fd_deed_error, F_deed_error⟩ := c.d.def_ 1 (d := dd_deed_error) rfl
  have g_deed_error := He.glo_ok X G (c.d.fact 1 (f := .glo "deed_error") rfl)
  obtain ⟨fd_makes, F_makes⟩ := c.d.def_ 2 (d := dd_makes) rfl
  have g_makes := He.glo_ok X G (c.d.fact 2 (f := .glo "makes") rfl)
  obtain ⟨fd_roles, F_roles⟩ := c.d.def_ 3 (d := dd_roles) rfl
  have g_roles := He.glo_ok X G (c.d.fact 3 (f := .glo "roles") rfl)
  obtain ⟨fd_new_names, F_new_names⟩ := c.d.def_ 4 (d := dd_new_names) rfl
  have g_new_names := He.glo_ok X G (c.d.fact 4 (f := .glo "new_names") rfl)
  obtain ⟨fd_old_names, F_old_names⟩ := c.d.def_ 5 (d := dd_old_names) rfl
  have g_old_names := He.glo_ok X G (c.d.fact 5 (f := .glo "old_names") rfl)
  obtain ⟨fd_script_error, F_script_error⟩ := c.d.def_ 6 (d := dd_script_error) rfl
  have g_script_error := He.glo_ok X G (c.d.fact 6 (f := .glo "script_error") rfl)
  obtain ⟨fd_Script___init___x, F_Script___init___x⟩ := c.d.def_ 7 (d := dd_Script___init___x) rfl
  obtain ⟨fd_deckL, F_deckL⟩ := c.d.def_ 8 (d := dd_deckL) rfl
  have g_deckL := He.glo_ok X G (c.d.fact 8 (f := .glo "_law_deck") rfl)
  obtain ⟨fd_drawL, F_drawL⟩ := c.d.def_ 9 (d := dd_drawL) rfl
  have g_drawL := He.glo_ok X G (c.d.fact 9 (f := .glo "_law_draw") rfl)
  obtain ⟨fd_nameL, F_nameL⟩ := c.d.def_ 10 (d := dd_nameL) rfl
  have g_nameL := He.glo_ok X G (c.d.fact 10 (f := .glo "_law_name") rfl)
  obtain ⟨fd_namesL, F_namesL⟩ := c.d.def_ 11 (d := dd_namesL) rfl
  have g_namesL := He.glo_ok X G (c.d.fact 11 (f := .glo "_law_names") rfl)
  obtain ⟨fd_pickL, F_pickL⟩ := c.d.def_ 12 (d := dd_pickL) rfl
  have g_pickL := He.glo_ok X G (c.d.fact 12 (f := .glo "_law_pick") rfl)
  obtain ⟨fd_oddL, F_oddL⟩ := c.d.def_ 13 (d := dd_oddL) rfl
  have g_oddL := He.glo_ok X G (c.d.fact 13 (f := .glo "_law_odd") rfl)
  obtain ⟨fd_Script___contains___x, F_Script___contains___x⟩ := c.d.def_ 14 (d := dd_Script___contains___x) rfl
  obtain ⟨fd_Script___len___x, F_Script___len___x⟩ := c.d.def_ 15 (d := dd_Script___len___x) rfl
  obtain ⟨fd_rolesL, F_rolesL⟩ := c.d.def_ 16 (d := dd_rolesL) rfl
  have g_rolesL := He.glo_ok X G (c.d.fact 16 (f := .glo "_law_roles") rfl)
  obtain ⟨fd_rightL_v3_x, F_rightL_v3_x⟩ := c.d.def_ 17 (d := dd_rightL_v3_x) rfl
  have g_rightL_v3_x := He.glo_ok X G (c.d.fact 17 (f := .glo "_law_right") rfl)
  obtain ⟨fd_wordsL, F_wordsL⟩ := c.d.def_ 18 (d := dd_wordsL) rfl
  have g_wordsL := He.glo_ok X G (c.d.fact 18 (f := .glo "_law_words") rfl)
  obtain ⟨fd_some_deedL_v1, F_some_deedL_v1⟩ := c.d.def_ 19 (d := dd_some_deedL_v1) rfl
  have g_some_deedL_v1 := He.glo_ok X G (c.d.fact 19 (f := .glo "_law_some_deed") rfl)
  obtain ⟨fd_right_scriptL, F_right_scriptL⟩ := c.d.def_ 20 (d := dd_right_scriptL) rfl
  have g_right_scriptL := He.glo_ok X G (c.d.fact 20 (f := .glo "_law_right_script") rfl)
  obtain ⟨fd_law, F_law⟩ := c.d.def_ 21 (d := dd_law) rfl
  have g_law := He.glo_ok X G (c.d.fact 21 (f := .glo "law") rfl)
  have ck := c.test
  simp only [chkD, Bool.and_eq_true] at ck
  obtain ⟨⟨⟨⟨tb_SINGLE, tb_WORDS⟩, ox_BadScript⟩, bxs_df_Script___init___x⟩, biso_Script_Script⟩ := ck
  obtain ⟨fdi_BadScript, Fi_BadScript⟩ := c.d.def_ 22 (d := ddi_BadScript) rfl
  have T : Tx K mg := ⟨He.free_ok X G (c.d.fact 22 (f := .free "abs") rfl), He.free_ok X G (c.d.fact 23 (f := .free "all") rfl), He.free_ok X G (c.d.fact 24 (f := .free "enumerate") rfl), He.free_ok X G (c.d.fact 25 (f := .free "int") rfl), He.free_ok X G (c.d.fact 26 (f := .free "isinstance") rfl), He.free_ok X G (c.d.fact 27 (f := .free "len") rfl), He.free_ok X G (c.d.fact 28 (f := .free "range") rfl), He.free_ok X G (c.d.fact 29 (f := .free "sorted") rfl), He.free_ok X G (c.d.fact 30 (f := .free "str") rfl), He.free_ok X G (c.d.fact 31 (f := .free "tuple") rfl), (let ⟨t, e⟩ := He.str_ok X G (c.d.fact 32 (f := .str "LETTERS" "abcdefghijklmnopqrstuvwxyz") rfl); ⟨_, e, t, rfl⟩), (let ⟨t, e⟩ := He.int_ok X G (c.d.fact 33 (f := .int "MAX_DEEDS" 12) rfl); ⟨_, e, t, rfl⟩), (let ⟨t, e⟩ := He.int_ok X G (c.d.fact 34 (f := .int "MAX_LETTERS" 8) rfl); ⟨_, e, t, rfl⟩), (let ⟨t, e⟩ := He.int_ok X G (c.d.fact 35 (f := .int "MAX_NEW" 3) rfl); ⟨_, e, t, rfl⟩), (let ⟨t, e⟩ := He.int_ok X G (c.d.fact 36 (f := .int "MAX_OLD" 4) rfl); ⟨_, e, t, rfl⟩), ⟨_, He.glo_ok X G (c.d.fact 37 (f := .glo "SINGLE") rfl), rfl⟩, fun H => tupNB_ok tb_SINGLE H, ⟨_, He.glo_ok X G (c.d.fact 38 (f := .glo "WORDS") rfl), rfl⟩, fun H => tupNB_ok tb_WORDS H, ⟨_, F_Script___init___x⟩, He.meth_ok (c.d.fact 7 (f := .meth "Script" "__init__") rfl), ⟨_, F_Script___contains___x⟩, He.meth_ok (c.d.fact 14 (f := .meth "Script" "__contains__") rfl), ⟨_, F_Script___len___x⟩, He.meth_ok (c.d.fact 15 (f := .meth "Script" "__len__") rfl), ⟨_, F_Script_deeds_x⟩, hp_Script_deeds_x, ⟨_, F_Script_new_x⟩, hp_Script_new_x, ⟨_, F_Script_old_x⟩, hp_Script_old_x, He.cls_ok (c.d.fact 42 (f := .cls "Script") rfl), ⟨_, _, F_is_name, g_is_name⟩, ⟨_, _, F_deed_error, g_deed_error⟩, ⟨_, _, F_makes, g_makes⟩, ⟨_, _, F_roles, g_roles⟩, ⟨_, _, F_new_names, g_new_names⟩, ⟨_, _, F_old_names, g_old_names⟩, ⟨_, _, F_script_error, g_script_error⟩, ⟨_, _, F_deckL, g_deckL⟩, ⟨_, _, F_drawL, g_drawL⟩, ⟨_, _, F_nameL, g_nameL⟩, ⟨_, _, F_namesL, g_namesL⟩, ⟨_, _, F_pickL, g_pickL⟩, ⟨_, _, F_oddL, g_oddL⟩, ⟨_, _, F_rolesL, g_rolesL⟩, ⟨_, _, F_rightL_v3_x, g_rightL_v3_x⟩, ⟨_, _, F_wordsL, g_wordsL⟩, ⟨_, _, F_some_deedL_v1, g_some_deedL_v1⟩, ⟨_, _, F_right_scriptL, g_right_scriptL⟩, ⟨_, _, F_law, g_law⟩, He.glo_ok X G (c.d.fact 39 (f := .glo "BadScript") rfl), He.glo_ok X G (c.d.fact 40 (f := .glo "Script") rfl), oexB_ok ox_BadScript, He.meth_ok (c.d.fact 41 (f := .meth "BadScript" "__init__") rfl), ⟨_, Fi_BadScript⟩, isoB_ok (He.cls_ok (c.d.fact 42 (f := .cls "Script") rfl)) biso_Script_Script, He.mkr_ok (c.d.fact 43 (f := .mkr "Script") rfl), ⟨He.cls_ok (c.d.fact 42 (f := .cls "Script") rfl), He.noat_ok (c.d.fact 44 (f := .noat "Script" "row") rfl)⟩, He.noat_ok (c.d.fact 45 (f := .noat "BadScript" "error") rfl), bxs_df_Script___init___x⟩
  have e := hfa.symm.trans g_law
  cases e
  have b := FunD.bindsA (ps := ["_law_script"]) F_law fun _ _ _ _ _ _ us hl => match us, hl with | [_], _ => rfl
  exact ⟨fd_law, fun s v => b s [v] rfl, fun base _ _ => ok_all T F_law⟩

end Tw
open PySem PySem.W PySem.Calls PyProof.Rows
set_option maxHeartbeats 0 in
theorem PySem.Challenge.cw_twigscripts_k78_scripts_as_objects_holds : PySem.Challenge.rw_twigscripts_k78_scripts_as_objects.Holds := by
  w_on; o_law
  refine HandSHeadRun.head_any (r := OpenLaw.row PySem.Challenge.rw_twigscripts_k78_scripts_as_objects) (q := view (OpenLaw.row PySem.Challenge.rw_twigscripts_k78_scripts_as_objects).prog [61]) (H := Tw.hkD) (ob := Tw.obD) (M := 20000) (loose := Tw.looseD) (d := HandSHeadRun.topDef (OpenLaw.row PySem.Challenge.rw_twigscripts_k78_scripts_as_objects).prog 61) (kwd := []) Tw.obD_eq
    (by kernel_rfl) (fun s => by kernel_rfl) Tw.runD (by kernel_rfl) (by kernel_rfl) (by kernel_rfl) (by rfl) (by first | assumption | decide +kernel) (by decide +kernel) ⟨rfl, rfl, rfl, rfl, rfl, by decide +kernel⟩ ?hw ?hc
  case hw => w_witness2
  case hc =>
    refine Tw.walk_ofG (l := PySem.Challenge.rw_twigscripts_k78_scripts_as_objects) (n := 63) (k := 7) (x := "_law_script") (CX := L2.CX0) rfl (by decide) (by kernel_rfl) ⟨⟨rfl, by decide, by decide⟩, rfl⟩ ?F (fun _ _ _ _ z => z)
    intro w mg fa h Y G hmg0
    obtain ⟨K, KX, c⟩ := Y
    have hmg : mg ("law" : PySem.Str) = some (.ref fa) := by
      have e : (HandSHeadRun.topDef (OpenLaw.row PySem.Challenge.rw_twigscripts_k78_scripts_as_objects).prog 61).name = ("law" : PySem.Str) := by kernel_rfl
      rw [← e]
      exact hmg0
    obtain ⟨fd, hb, hF⟩ := Tw.facts (P := (PySem.Challenge.rw_twigscripts_k78_scripts_as_objects).prog) (w := w) KX G hmg c
    exact ⟨K, fd, Tw.sp_law K, KX, hb, fun H a ns hl _ hS => ⟨a, ns, rfl, hS, hl, fun _ => rfl⟩, hF⟩

