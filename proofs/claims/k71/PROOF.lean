import PyProof.Rows.All
import Wide.All
import OpenK.AllK
import Wide.FinOn
import KE.KStateDown
import KE.DataEq
import Lean
import HandS.ForMost
import HandS.Flow
import HandS.Steps
import HandS.Style
import HandS.IsInst
import HandS.SetKeys
import HandS.TupAny
import HandS.Deep
import HandS.Walk
import HandS.Codes
import HandS.Defaults
import HandS.Head0
import HandS.Head1
import HandS.Head2
import HandS.HeadEnd
import HandS.HeadHook1
import HandS.HeadHook2
import KE.GoesMore
import HandS.FStrTup
import KE.KDictList
import HandS.More
import HandS.Strs
import HandS.NoneIn
import KE.KDictCopyH
import HandS.Lambda
import HandS.TryOnly
import PyProof.Rows.SortShellAny
import HandS.DictEq
import HandS.DictComp
import HandS.StrMore
import PySem.Challenge.RW_twigscripts_k71_known_numbers_of_moves

set_option Elab.async false
set_option linter.all false
set_option maxRecDepth 100000
set_option maxHeartbeats 4000000
/-! names for the readings of the layer's rules -/
namespace Tw
open PySem PySem.Spec PyProof.Rows L2
def rAddI : R2 := rI0 fun i j => .int (i + j)
def rSubI : R2 := rI0 fun i j => .int (i - j)
def rMulI : R2 := rI CMul fun i j => .int (i * j)
def rDivI : R2 := rI CDiv fun i j => .int (i / j)
def rModI : R2 := rI (fun _ j => 0 < j) fun i j => .int (i % j)
def rPowI : R2 := rI CPow fun i j => .int (i ^ j.toNat)
def rLtI : R2 := rI0 fun i j => .bl (decide (i < j))
def rGtI : R2 := rI0 fun i j => .bl (decide (j < i))
def rGeI : R2 := rI0 fun i j => .bl (decide (j ≤ i))
def rLtS : R2 := fun x y H Q => ∃ i j, x = .str i ∧ y = .str j ∧ Q (.bl (decide (i.cps.toList < j.cps.toList))) H
def rAddS : R2 := fun x y H Q => ∃ i j, x = .str i ∧ y = .str j ∧ i.length + j.length ≤ sizeLine ∧ Q (.str (i ++ j)) H
def rAbs : List V → Hp → VK → Prop := fun xs H Q => ∃ i, xs = [.int i] ∧ Q (.int (if i < 0 then -i else i)) H
def rInt1 : List V → Hp → VK → Prop := fun xs H Q => (∃ i, xs = [.int i] ∧ Q (.int i) H) ∨ ∃ k, xs = [.bl k] ∧ Q (.int (if k then 1 else 0)) H
def rLenD : List V → Hp → VK → Prop := fun xs H Q => ∃ a kvs, xs = [V.ref a] ∧ Rd H a (.dK kvs) ∧ Q (.int kvs.length) H
def rLenV (K : PySem.W.Frag) : List V → Hp → VK → Prop := fun xs H Q => ∃ x n, xs = [x] ∧ LenV K x H n ∧ Q (.int n) H
def rLstOf (K : PySem.W.Frag) : List V → Hp → VK → Prop := fun xs H Q => ∃ p ys, xs = [.ref p] ∧ (SqL K H p ys ∨ SqT K H p ys) ∧ ∀ l, H l = none → Q (.ref l) (upd H l (.lst ys))
def rJoin (K : PySem.W.Frag) : V → List V → Hp → VK → Prop := fun x xs H Q => ∃ a p, ∃ ys : List Str, x = .str a ∧ xs = [.ref p] ∧ (SqL K H p (ys.map V.str) ∨ SqT K H p (ys.map V.str)) ∧ (ys.map (·.length)).sum + ys.length * a.length ≤ 16777216 ∧ Q (.str (Txt.join a ys)) H
abbrev tDPut (td ty tv : TE) : TS := sDPut td ty tv
/-! ### a def of the top, called by its name -/
/-- the def st stands at the module's name x -/
def DefAt (K : PySem.W.Frag) (mg : Str → Option Value) (x : Str) (st : Stmt) : Prop := ∃ f fd, FunD K x x (defArgs st) (defBody st) (defScope st) [] [] f fd ∧ mg x = some (.ref f)
section
variable {P : Program} {w : World} {K : PySem.W.Frag} {mg : Str → Option Value} {base : Heap}
/-- a def that may be called by its name (it lets no exception out) -/
structure Cal (P : Program) (w : World) (K : PySem.W.Frag) (mg : Str → Option Value) (base : Heap) (k : Nat) (x : Str) (sp : Sp) : Prop where
  ex : ∃ (f : Addr) (fd : FuncData) (ps : List Str), FnOk P w K mg base CX0 k f fd ps sp ∧ mg x = some (.ref f) ∧ PySem.W.keepIn K (.ref f) = true ∧ Binds K fd ps []
theorem cal_of {x : Str} {st : Stmt} {N ps : List Str} {k : Nat} {sp : Sp} (D : DefAt K mg x st)
    (hb : ∀ (kV doc pm : Value) (an : Option Addr) (cdv ct : Value) (us : List Value), us.length = ps.length → bindArgs (PySem.W.fnOf x x (defArgs st) (defBody st) (defScope st) .none kV doc pm an cdv ct) ⟨us, []⟩ = pure (ps.zip us))
    (S : FnScope N ps (defScope st)) (len : ∀ vs H Q E, sp vs H Q E → vs.length = ps.length) {t : TS}
    (body : ∀ (cdv : Value) (f : Addr) (A : Around) (outer : List Env) (s : Shared) (H : Hp) (E : XK), Room k (A.deeper (envOfC x (defScope st) s.heap.objs.size f cdv)) →
      PSs (cxOf CX0 P w K mg base N x (defScope st) f cdv A outer s H E).nox (defBody st) t)
    (pure_ : ∀ (vs : List V) (H : Hp) (Q : VK) (E : XK), sp vs H Q E → t { nx := fun _ H' => Q .non H', rt := Q } (start N vs) H) : Cal P w K mg base (k + 1) x sp := by
  obtain ⟨f, fd, F, g⟩ := D
  exact ⟨f, fd, ps, F.ok S len fun cdv A outer s H vs Q E hr h => ⟨t, (body cdv f A outer s H E hr).nox, pure_ vs H Q E h⟩, g, F.kp, F.bindsN hb⟩
end
section
variable {X : Cx} {k j : Nat} {x : Str} {sp : Sp} {p pos : Pos} {e : Expr} {es : List Expr} {t : TA}
theorem pe_c (c : Cal X.prog X.w X.K X.mg X.base k x sp) (hr : Room j X.A) (hk : k ≤ j) (hg : Gl X x) (ha : PA X (e :: es) t)
    (hdb : (x == ("__debug__" : Str)) = false := by decide) (he : starEach (e :: es) X.env = (false, eval e X.env) :: starEach es X.env := by rfl) (hpl : (backTo pos (starEach es X.env)).any (·.1) = false := by rfl) :
    PE X (.Call (.Name x p) (e :: es) [] pos) (tCall sp [] E0 t) := by
  obtain ⟨f, fd, ps, F, hm, kp, b⟩ := c.ex
  exact pe_call F (hr.mono hk) hg hm kp b .nil pass0 ha hdb he hpl
end
/-! ### text * int -/
def rRepS : R2 := fun x y H Q => ∃ (z : Str) (n : Int), x = .str z ∧ y = .int n ∧ MulOk z n ∧ Q (.str (Txt.mul z n)) H
theorem op_repS {X : Cx} : OpR X (binaryOp .Mult) rRepS := by
  intro pins s σ H x y v u Q I rx ry h
  obtain ⟨z, n, rfl, rfl, ok, q⟩ := h
  obtain ⟨t, rfl⟩ := rx
  obtain ⟨t', rfl⟩ := ry
  obtain ⟨hp, g, d, tk, os⟩ := s
  exact SB.mul ok fun t2 k => ⟨.str _, H, I.tok _, ⟨_, rfl⟩, q⟩
/-! ### a text against a dict -/
theorem str_eq_declines_dict (b : Str) (u : Tok) (l : Addr) (o : Obj) (es : Array DictEntry) (n : Nat) (hd : o.data = .dict es n) (hc : o.cls = .type "dict") :
    Meets (Builtin.«str.__eq__» ⟨[.str b u, .ref l], []⟩) (fun _ R s => s.heap.get? l = some o ∧ R (.ok (.ret .notImplemented)) s) :=
  .of_wp fun prog w A R s h => by
    obtain ⟨hp, g, d, tk, os⟩ := s
    obtain ⟨hl, h⟩ := h
    obtain ⟨c, dd, dt, sl⟩ := o
    simp only at hd hc
    subst hd hc
    wp_walk using wpAny_loadPart' hl, wpAny_load hl
    exact ⟨_, rfl, h⟩
theorem dict_eq_declines_str (l : Addr) (o : Obj) (es : Array DictEntry) (n : Nat) (hd : o.data = .dict es n) (hc : o.cls = .type "dict") (b : Str) (u : Tok) :
    Meets (Builtin.«dict.__eq__» ⟨[.ref l, .str b u], []⟩) (fun _ R s => s.heap.get? l = some o ∧ R (.ok (.ret .notImplemented)) s) :=
  .of_wp fun prog w A R s h => by
    obtain ⟨hp, g, d, tk, os⟩ := s
    obtain ⟨hl, h⟩ := h
    obtain ⟨c, dd, dt, sl⟩ := o
    simp only at hd hc
    subst hd hc
    have f1 := F.sub_str_dict
    wp_walk using wpAny_loadPart' hl
    exact ⟨_, rfl, h⟩
section
variable {A : Around} {s : Shared}
theorem rc_str_dict {l : Addr} {o : Obj} (b : Str) (u : Tok) (es : Array DictEntry) (n : Nat) (ho : s.heap.get? l = some o) (hc : o.cls = .type "dict") (hd : o.data = .dict es n) (hu : A.units < cLine) : SeqAt.RcAt A s (.str b u) (.ref l) false := fun prog w E Q h =>
  SeqAt.rc_eq_decline_or (k := false) (typeIs_str s b u) ⟨_, ho, hc⟩ (by decide) F.sub_dict_str F.slot_str_eq F.slot_dict_eq_refl
    (fun _ hq => call_meets F.slot_str_eq (typeIs_str s b u) F.entry_str_eq (F.args_str_eq_2 _ _) (str_eq_declines_dict b u l o es n hd hc) ⟨ho, hq⟩)
    (fun _ hq => call_meets F.slot_dict_eq_refl ⟨_, ho, hc⟩ F.entry_dict_eq (F.args_dict_eq_2 _ _) (dict_eq_declines_str l o es n hd hc b u) ⟨ho, hq⟩)
    (fun _ hq => wpAny_of_eq (rfl : isSame (.str b u) (.ref l) = pure false) hq) (.inr hu) h
theorem eqAt_str_dict {l : Addr} {o : Obj} (b : Str) (u : Tok) (es : Array DictEntry) (n : Nat) (ho : s.heap.get? l = some o) (hc : o.cls = .type "dict") (hd : o.data = .dict es n) (hu : A.units < cLine) : SeqAt.EqAt A s (.str b u) (.ref l) false := fun prog w E Q h => by
  unfold eqBool
  refine wpAny_holding ?_
  refine wpAny_ite_split (fun hab => absurd (eq_of_beq hab) nofun) (fun _ => ?_)
  exact wpAny_bind (rc_str_dict b u es n ho hc hd hu prog w E _ (wpAny_truthy_bool h))
end
/-! ### any value, and whether it stands in a row of texts -/
inductive AV (K : PySem.W.Frag) (H : Hp) : V → Prop
  | non : AV K H .non
  | bl (b : Bool) : AV K H (.bl b)
  | int (i : Int) : AV K H (.int i)
  | str (x : Str) (sz : x.length ≤ sizeLine) : AV K H (.str x)
  | lst {a : Addr} {xs : List V} (h : SqL K H a xs) : AV K H (.ref a)
  | tup {a : Addr} {xs : List V} (h : SqT K H a xs) : AV K H (.ref a)
  | dct {a : Addr} {kvs : List (Key × V)} (h : Rd H a (.dK kvs)) : AV K H (.ref a)
def inA (x : V) (ss : List Str) : Bool := match x with
  | .str z => ss.contains z
  | _ => false
def rInA (K : PySem.W.Frag) (neg : Bool) : R2 := fun x y H Q => ∃ p ss, y = .ref p ∧ (SqL K H p (ss.map V.str) ∨ SqT K H p (ss.map V.str)) ∧ AV K H x ∧ Q (.bl (if neg then !inA x ss else inA x ss)) H
def eqA (x : V) (u : Value) : Bool := match x, u with
  | .str z, .str y _ => y == z
  | _, _ => false
theorem any_eqA {x : V} : ∀ {ss : List Str} {us : List Value}, Vals (ss.map V.str) us → us.any (eqA x) = inA x ss
  | [], _, .nil => by cases x <;> rfl
  | z :: ss, _, .cons ⟨t, e⟩ r => by
    subst e
    rw [List.any_cons, any_eqA r]
    cases x with
    | str y =>
      show (z == y || ss.contains y) = (z :: ss).contains y
      rw [List.contains_cons]
      congr 1
      rw [Bool.eq_iff_iff, beq_iff_eq, beq_iff_eq]
      exact eq_comm
    | _ => rfl
theorem eqAt_any {X : Cx} {pins : List (Addr × Obj)} {σ : L2.St} {H : Hp} {s : Shared} {A : Around} {x : V} {v : Value} (I : Inv X pins σ H s) (rx : RelV x v) (h : AV X.K H x) (hu : A.units < cLine) :
    ∀ {ss : List Str} {us : List Value}, Vals (ss.map V.str) us → ∀ u ∈ us, SeqAt.EqAt A s u v (eqA x u)
  | [], _, .nil, _, hu' => by cases hu'
  | z :: ss, _, .cons ⟨t, e⟩ r, u, hu' => by
    rcases List.mem_cons.mp hu' with rfl | hm
    · subst e
      cases h with
      | non => cases rx; exact SeqAt.EqAt.str_none z t
      | bl b => cases rx; exact SeqAt.EqAt.str_bool z t b
      | int i => obtain ⟨t', rfl⟩ := rx; exact SeqAt.EqAt.str_int z t i t'
      | str y _ => obtain ⟨t', rfl⟩ := rx; exact SeqAt.EqAt.str_str z t y t'
      | lst h =>
        cases rx
        obtain ⟨its, _, pl, _⟩ := I.list h
        exact SeqAt.EqAt.str_list z t pl.isList hu
      | tup h =>
        cases rx
        obtain ⟨its, _, pl, _⟩ := I.tuple h
        exact SeqAt.EqAt.str_tuple z t pl hu
      | @dct a kvs h =>
        cases rx
        have ok : ObjOk X.prog X.w H s.heap a (.dK kvs) := by
          rcases h with h | ⟨ob, h⟩
          · exact I.hok _ _ h
          · exact (show ObjOk X.prog X.w H s.heap a (.frz ob (.dK kvs)) from I.hok _ _ h).2
        obtain ⟨_, _, _, _, o, es, n, ho, ⟨hc, _⟩, hd, _⟩ := ok
        exact eqAt_str_dict z t es n ho hc hd hu
    · exact eqAt_any I rx h hu r u hm
section
variable {X : Cx}
theorem op_inA (hu : X.A.units + 1 < cLine) : OpR X (compareOp .In) (rInA X.K false) := by
  intro pins s σ H x y v u Q I rx ry h
  obtain ⟨p, ss, rfl, hq, hx, q⟩ := h
  cases ry
  rcases hq with hq | hq
  · obtain ⟨its, r, pl, hz⟩ := I.list hq
    refine SeqAt.in_listAt (eqA x) pl.isList (fun w hw => eqAt_any I rx hx hu r w (by simpa using hw)) ⟨.bl _, H, I, rfl, ?_⟩
    rw [show its.toArray.any (eqA x) = its.any (eqA x) by simp, any_eqA r]
    exact q
  · obtain ⟨its, r, pl, hz⟩ := I.tuple hq
    refine SeqAt.in_tupleAt (eqA x) pl (fun w hw => eqAt_any I rx hx hu r w (by simpa using hw)) ⟨.bl _, H, I, rfl, ?_⟩
    rw [show its.toArray.any (eqA x) = its.any (eqA x) by simp, any_eqA r]
    exact q
end
/-! ### == of a list (tuple) and the empty one -/
def rEqE (K : PySem.W.Frag) : R2 := fun x y H Q => ∃ a b xs, x = .ref a ∧ y = .ref b ∧ ((SqL K H a xs ∧ SqL K H b []) ∨ (SqT K H a xs ∧ SqT K H b [])) ∧ Q (.bl xs.isEmpty) H
def rNeE (K : PySem.W.Frag) : R2 := fun x y H Q => ∃ a b xs, x = .ref a ∧ y = .ref b ∧ ((SqL K H a xs ∧ SqL K H b []) ∨ (SqT K H a xs ∧ SqT K H b [])) ∧ Q (.bl (!xs.isEmpty)) H
theorem vals_nil {us : List Value} (r : Vals [] us) : us = [] := by cases r; rfl
theorem vals_isEmpty {xs : List V} {us : List Value} (r : Vals xs us) : us.isEmpty = xs.isEmpty := by cases r <;> rfl
section
variable {X : Cx}
theorem op_eqE (hu : X.A.units + 1 < cLine) : OpR X (compareOp .Eq) (rEqE X.K) := by
  intro pins s σ H x y v u Q I rx ry h
  obtain ⟨a, b, xs, rfl, rfl, hq, q⟩ := h
  cases rx
  cases ry
  have hu0 : X.A.units < cLine := by omega
  rcases hq with ⟨h1, h2⟩ | ⟨h1, h2⟩
  · obtain ⟨its, r, pl, hz⟩ := I.list h1
    obtain ⟨its2, r2, pl2, hz2⟩ := I.list h2
    have e2 := vals_nil r2
    subst e2
    cases xs with
    | nil =>
      have e1 := vals_nil r
      subst e1
      exact SeqAt.eq_listAt (e := fun _ => true) pl.isList pl2.isList rfl hu0 (fun j h1 => absurd h1 (by simp)) ⟨.bl _, H, I, rfl, q⟩
    | cons x xs =>
      cases r with
      | cons r0 rs => exact SeqAt.eq_list_lengthsAt pl.isList pl2.isList (by simp) hu0 ⟨.bl _, H, I, rfl, q⟩
  · obtain ⟨its, r, pl, hz⟩ := I.tuple h1
    obtain ⟨its2, r2, pl2, hz2⟩ := I.tuple h2
    have e2 := vals_nil r2
    subst e2
    refine SeqAt.eq_tupleAt (e := fun _ => true) pl pl2 hu0 (fun j h1 h2 => absurd h2 (by simp)) ⟨.bl xs.isEmpty, H, I, ?_, q⟩
    have e : ((List.range (min its.toArray.size ([] : List Value).toArray.size)).all (fun _ => true) && its.toArray.size == ([] : List Value).toArray.size) = xs.isEmpty := by
      rw [← vals_isEmpty r]
      cases its <;> simp
    rw [e]
    rfl
theorem op_neE (hu : X.A.units + 1 < cLine) : OpR X (compareOp .NotEq) (rNeE X.K) := by
  intro pins s σ H x y v u Q I rx ry h
  obtain ⟨a, b, xs, rfl, rfl, hq, q⟩ := h
  cases rx
  cases ry
  have hu0 : X.A.units < cLine := by omega
  rcases hq with ⟨h1, h2⟩ | ⟨h1, h2⟩
  · obtain ⟨its, r, pl, hz⟩ := I.list h1
    obtain ⟨its2, r2, pl2, hz2⟩ := I.list h2
    have e2 := vals_nil r2
    subst e2
    cases xs with
    | nil =>
      have e1 := vals_nil r
      subst e1
      exact SeqAt.RcNeAt.lists (e := fun _ => true) pl.isList pl2.isList rfl hu0 (fun j h1 => absurd h1 (by simp)) _ _ _ _ ⟨.bl _, H, I, rfl, q⟩
    | cons x xs =>
      cases r with
      | cons r0 rs => exact SeqAt.RcNeAt.lists_lengths pl.isList pl2.isList (by simp) hu0 _ _ _ _ ⟨.bl _, H, I, rfl, q⟩
  · obtain ⟨its, r, pl, hz⟩ := I.tuple h1
    obtain ⟨its2, r2, pl2, hz2⟩ := I.tuple h2
    have e2 := vals_nil r2
    subst e2
    refine SeqAt.RcNeAt.tuples (e := fun _ => true) pl pl2 hu0 (fun j h1 h2 => absurd h2 (by simp)) _ _ _ _ ⟨.bl (!xs.isEmpty), H, I, ?_, q⟩
    have e : ((List.range (min its.toArray.size ([] : List Value).toArray.size)).all (fun _ => true) && its.toArray.size == ([] : List Value).toArray.size) = xs.isEmpty := by
      rw [← vals_isEmpty r]
      cases its <;> simp
    show Value.bool _ = Value.bool _
    first
      | (rw [e])
      | (congr 1; revert e; cases its <;> simp)
end
/-! ### == of data of any depth up to 180 -/
section
variable {X : Cx}
theorem room_eq {k : Nat} {A : Around} (hr : Room k A) : A.units + 200 < cLine := by
  have := hr.un
  omega
end
/-! ### the head's facts, with a test of one's own -/
abbrev AlX : Type := Bool × He.AlD
def obsX (chk : PySem.W.Frag → Bool) (fa : List He.Fa) (fn : List He.DefD) (K : PySem.W.Frag) : AlX := (chk K, He.obsD fa fn K)
def valX (fn : List He.DefD) : AlX := (true, He.valD fn)
def SaysX (chk : PySem.W.Frag → Bool) (fa : List He.Fa) (fn : List He.DefD) (K : PySem.W.Frag) : Prop := obsX chk fa fn K = valX fn
def obsXG (n : Nat) (chk : PySem.W.Frag → Bool) (fa : List He.Fa) (fn : List He.DefD) (g : Addr → Option Obj) : AlX := obsX chk fa fn (He.frG g (He.asD g n))
def hookX (n : Nat) (chk : PySem.W.Frag → Bool) (fa : List He.Fa) (fn : List He.DefD) : PySem.W.Hook where
  α := AlX
  obs := fun s => obsXG n chk fa fn s.heap.get?
  val := fun _ => valX fn
  says := fun _ h => ∃ K : PySem.W.Frag, K.In h ∧ SaysX chk fa fn K
  of := fun _ _ e => ⟨_, He.frG_in, e⟩
  keeps := fun _ _ _ ⟨K, hK, c⟩ k => ⟨K, PySem.W.Frag.In.keeps hK k, c⟩
theorem obsXG_eq {n : Nat} {chk : PySem.W.Frag → Bool} {fa : List He.Fa} {fn : List He.DefD} {g : Addr → Option Obj} {s : Shared} (h : ∀ a, g a = s.heap.get? a) : obsXG n chk fa fn g = (hookX n chk fa fn).obs s := by
  have e : g = s.heap.get? := funext h
  rw [e] <;> rfl
section
variable {chk : PySem.W.Frag → Bool} {fa : List He.Fa} {fn : List He.DefD} {K : PySem.W.Frag}
theorem SaysX.d (c : SaysX chk fa fn K) : He.SaysD fa fn K := congrArg (fun z : AlX => z.2) c
theorem SaysX.test (c : SaysX chk fa fn K) : chk K = true := congrArg (fun z : AlX => z.1) c
end
end Tw

namespace Tw
open PySem PySem.Spec PyProof.Rows L2
/-! ### enumerate(tuple) -/
theorem meets_enumerate_newT (l : Addr) (o : Obj) (items : Array Value) (n : Nat) (hc : o.cls = .type "tuple") (hd : o.data = .seq items n) :
    Meets (Builtin.«enumerate.__new__» ⟨[.type "enumerate", .ref l], []⟩) (fun _ R s => s.heap.get? l = some o ∧
      R (.ok (.ret (.ref (s.heap.push { cls := .type "tuple_iterator", data := .fields #[.ref l, .int 0 0] }).objs.size)))
        { s with heap := (s.heap.push { cls := .type "tuple_iterator", data := .fields #[.ref l, .int 0 0] }).push { cls := .type "enumerate", data := .fields #[.none, .bool false, .ref s.heap.objs.size, rawInt 0, .none, .none] } }) :=
  .of_wp fun prog w A R s h => by
    obtain ⟨hp, g, d, tk, os⟩ := s
    obtain ⟨hl, h⟩ := h
    obtain ⟨c, dd, dt, sl⟩ := o
    simp only at hc hd
    subst hc hd
    have hsub := sub_enumerate
    have hL : Heap.IsTuple (Shared.heap ⟨hp, g, d, tk, os⟩) l items := ⟨_, hl, rfl, n, rfl⟩
    wp_walk using AutoSeq1.wpAny_loadPart' hl
    refine wpAny_stack_any fun st => wpAny_pure ?_
    split
    · rename_i c _ _ _ _ _
      cases (c == Value.type "enumerate")
      · wp_walk using AutoSeq1.wpAny_loadPart' hl, wpAny_pyIter_tuple hL
        exact ⟨_, rfl, h⟩
      · wp_walk using AutoSeq1.wpAny_loadPart' hl, wpAny_pyIter_tuple hL
        exact ⟨_, rfl, h⟩
    · wp_walk using AutoSeq1.wpAny_loadPart' hl, wpAny_pyIter_tuple hL
      exact ⟨_, rfl, h⟩
section
variable {prog : Program} {w : World} {A : Around} {E : Value → Shared → Prop} {s : Shared}
theorem call_enumerate_tuple {l : Addr} {items : Array Value} {Q : Value → Shared → Prop} (hL : s.heap.IsTuple l items)
    (h : ∀ h', IsEnum h' (s.heap.objs.size + 1) s.heap.objs.size 0 .none → h'.IsTupleIter s.heap.objs.size l 0 → h'.objs.size = s.heap.objs.size + 2 →
      (∀ b o, s.heap.get? b = some o → h'.get? b = some o) → Q (.ref (s.heap.objs.size + 1)) { s with heap := h' }) :
    wpAny (model prog w) A (call (.type "enumerate") [.ref l]) Q E s := by
  obtain ⟨o, hl, hc, n, hd⟩ := hL
  refine callType_new F.called_enumerate (by decide) (F.typeCall_enumerate_1 _) (F.newCall_enumerate_1 _) (fun obj => F.args_object_init_2 obj _) F.entry_enumerate_new
    (meets_enumerate_newT l o items n hc hd) ⟨hl, ?_⟩
  have hz : (s.heap.push { cls := .type "tuple_iterator", data := .fields #[.ref l, .int 0 0] }).objs.size = s.heap.objs.size + 1 := Heap.size_push ..
  show _ ∧ _
  rw [hz]
  have he : IsEnum ((s.heap.push { cls := .type "tuple_iterator", data := .fields #[.ref l, .int 0 0] }).push
      { cls := .type "enumerate", data := .fields #[.none, .bool false, .ref s.heap.objs.size, rawInt 0, .none, .none] }) (s.heap.objs.size + 1) s.heap.objs.size 0 .none := by
    have := Heap.get?_push_size (s.heap.push { cls := .type "tuple_iterator", data := .fields #[.ref l, .int 0 0] })
      (o := { cls := .type "enumerate", data := .fields #[.none, .bool false, .ref s.heap.objs.size, rawInt 0, .none, .none] }) rfl
    rw [hz] at this; exact this
  refine ⟨⟨_, he, rfl⟩, h _ he ⟨_, Heap.get?_push_of_some _ (Heap.get?_push_size _ rfl), rfl, rfl⟩ (by rw [Heap.size_push, hz]) fun b o x => Heap.get?_push_of_some _ (Heap.get?_push_of_some _ x)⟩
end
def IteT (K : PySem.W.Frag) (a : Addr) : It :=
  ⟨fun i H => ∃ (xs : List V) (x : V), SqT K H a xs ∧ xs[i]? = some x, fun i H v H' => ∃ T x, v = .ref T ∧ H T = none ∧ H' = upd H T (.tup [.int (i : Nat), x]) ∧ ∀ xs, SqT K H a xs → xs[i]? = some x, fun i H => ∃ xs : List V, SqT K H a xs ∧ xs.length ≤ i⟩
theorem turn_enumT {P : Program} {w : World} {K : PySem.W.Frag} {elts : List Expr} {kk : Nat} {tpos : Pos} (a e it : Addr) :
    Turn P w K (.Tuple elts kk tpos) (IteT K a) [e, it] e (fun i h => (∃ old, IsEnum h e it ((i : Nat) : Int) old) ∧ h.IsTupleIter it a i ∧ e ≠ it) where
  mem := by simp
  obj := fun i h st b hb => by
    obtain ⟨⟨old, he⟩, ⟨o, ho, hc, hd⟩, _⟩ := st
    have e' : b = e ∨ b = it := by simpa using hb
    rcases e' with z | z
    · rw [z]; exact ⟨_, he, fun v q => nomatch q⟩
    · rw [z]; exact ⟨o, ho, fun v q => by rw [hd] at q; cases q⟩
  keep := fun i h h' st k => let ⟨⟨old, he⟩, hi, hne⟩ := st; ⟨⟨old, k e (by simp) _ he⟩, hi.at fun o q => k it (by simp) o q, hne⟩
  item := by
    intro X hP hw hK hc i pins s σ H E I hf st hg
    subst hP hw hK
    obtain ⟨⟨old, he⟩, hit, hne⟩ := st
    obtain ⟨xs, x, hq, hx⟩ := hg
    obtain ⟨its, rv, p, hz⟩ := I.tuple hq
    obtain ⟨u, hu, ru⟩ := rv.get hx
    have hel : e < s.heap.objs.size := Heap.lt_size he
    have hil : it < s.heap.objs.size := by obtain ⟨_, q, _⟩ := hit; exact Heap.lt_size q
    have pT : s.heap.IsTuple a its.toArray := p
    have nai : a ≠ it := by
      rintro rfl
      obtain ⟨o1, h1, c1, _⟩ := hit
      obtain ⟨o2, h2, c2, _⟩ := pT
      rw [h1] at h2
      cases h2
      rw [c1] at c2
      exact absurd c2 (by decide)
    have nae : e ≠ a := by
      rintro rfl
      obtain ⟨o2, h2, c2, _⟩ := pT
      have h1 : s.heap.get? e = some _ := he
      rw [h1] at h2
      cases h2
      exact absurd c2 (by show ¬ Value.type "enumerate" = Value.type "tuple"; decide)
    have hin : i < its.toArray.size := by
      have := (List.getElem?_eq_some_iff.mp hu).1
      rw [List.size_toArray]
      exact this
    have hA : X.A.in1.handled = none := I.ok.hd hc
    refine wpAny_pyNext_enum_itemD (Draws.tuple (prog := X.prog) (w := X.w) (A := X.A.in1) hA it a nai its.toArray) he ⟨hit, pT⟩ hin hne (by simp [hne, nae]) fun x' h' tk hP' ho hit' hT hsz hk => ?_
    have ex : x' = u := by
      have : its.toArray[i]? = some u := by simpa using hu
      rw [this] at hP'
      exact (Option.some.inj hP').symm
    subst ex
    refine ⟨_, rfl, wpAny_letOwnedTupleGo_enum (s := { s with heap := h', toks := tk + 1 }) ho fun h'' he' sb => ?_⟩
    have hT2 : h''.get? s.heap.objs.size = some { cls := .type "tuple", data := .seq #[.int i tk, x'] } := (sb.2 _ (Nat.ne_of_gt hel)).trans hT
    have new : ObjOk X.prog X.w (upd H s.heap.objs.size (.tup [.int (i : Nat), x])) h'' s.heap.objs.size (.tup [.int (i : Nat), x]) :=
      ⟨by show 2 ≤ sizeLine; decide, [.int i tk, x'], .cons ⟨_, rfl⟩ (.cons ru .nil), ⟨_, hT2, rfl, _, rfl⟩⟩
    have I1 : Inv X pins σ (upd H s.heap.objs.size (.tup [.int (i : Nat), x])) { s with heap := h'', toks := tk + 1 } :=
      I.turnedNew (ch := [e, it]) (fun b ob hb q => (sb.2 b (fun z => hb (by simp [z]))).trans (hk b ob (fun z => hb (by simp [z])) (fun z => hb (by simp [z])) q)) hf (Nat.le_refl _) new
    refine ⟨.ref s.heap.objs.size, _, I1, rfl, ⟨_, x, rfl, I.hok.fresh (Nat.le_refl _), rfl, fun ys hy => by rw [I.tuple_inj hy hq]; exact hx⟩, ⟨⟨x', ?_⟩, hit'.1.at fun o q => (sb.2 it (Ne.symm hne)).trans q, hne⟩, fun b hb => ?_⟩
    · have e1 : ((i + 1 : Nat) : Int) = (i : Int) + 1 := by omega
      rw [e1]; exact he'
    · have hb' : b < s.heap.objs.size := by
        have e' : b = e ∨ b = it := by simpa using hb
        rcases e' with z | z
        · rw [z]; exact hel
        · rw [z]; exact hil
      rw [upd_ne (Nat.ne_of_lt hb')]
      exact (hf b hb).1
  done := by
    intro X hP hw hK hc i pins s σ H E I hf st hg
    subst hP hw hK
    obtain ⟨⟨old, he⟩, hit, hne⟩ := st
    obtain ⟨xs, hq, hx⟩ := hg
    obtain ⟨its, rv, p, hz⟩ := I.tuple hq
    obtain ⟨f0, f1, f2, f3, f4, f5⟩ := hf it (by simp)
    have hl := rv.length
    have pT : s.heap.IsTuple a its.toArray := p
    have hT : s.TypeIs (.ref e) "enumerate" := ⟨_, he, rfl⟩
    unfold pyNext
    refine wpAny_bind (wpAny_attempt (wpAny_callSpecial?_slot (name := Str.ofString "__next__") hT F.slot_enumerate_next
      (wpAny_call_entry F.slot_enumerate_next hT F.entry_enumerate_next ?_ (F.args_enumerate_next_1 _))))
    show wpAny _ _ (field (.ref e) 2 >>= _) _ _ _
    refine wpAny_bind (wpAny_field he rfl (x := .ref it) rfl ?_)
    have hA : X.A.in1.handled = none := I.ok.hd hc
    refine wpAny_bind (wpAny_nextOf_tuple_end hA hit pT (by simp; omega) fun h' x he' hx' => ?_)
    obtain ⟨o, ho, hc'⟩ := hx'
    refine wpAny_bind (wpAny_isInstance (T := "StopIteration") (b := true) ⟨o, ho, hc'⟩ isSubtype_stop ?_)
    exact wpAny_pure ⟨rfl, I.turned (t' := s.toks) (fun b o hb q => he' b o hb q) f0 f1 f3 f4 f5⟩
  self := fun A i s Q E st h => let ⟨⟨_, he⟩, _⟩ := st; wpAny_pyIter_enum he h
def iEnumT (K : PySem.W.Frag) (ta : TA) : TI := fun σ H R => ta σ H fun vs H1 => ∃ a xs, vs = [.ref a] ∧ SqT K H1 a xs ∧ R (IteT K a) H1
theorem pi_enumT {X : Cx} {e : Expr} {ta : TA} {p pos tpos : Pos} {elts : List Expr} {kk : Nat} (hg : Gl X "enumerate") (hm : X.mg "enumerate" = none) (ha : PA X [e] ta) (hs : starEach [e] X.env = [(false, eval e X.env)] := by rfl) :
    PI X (.Tuple elts kk tpos) (.Call (.Name "enumerate" p) [e] [] pos) (iEnumT X.K ta) := by
  refine ⟨fun pins s σ H R I h => ?_⟩
  refine Call_ (ld_blt I hg hm boot_enumerate (PyProof.Rows.callWith_type1 (thn (ha.run pos pins s σ H _ I h) fun us s1 ⟨vs, H1, I1, r1, q1⟩ => ?_) hs rfl))
  obtain ⟨a, xs, ex, hq, q⟩ := q1
  subst ex
  cases r1 with
  | cons r rr =>
    cases rr
    cases r
    obtain ⟨its, rv, p', hz⟩ := I1.tuple hq
    refine call_enumerate_tuple (show s1.heap.IsTuple a its.toArray from p') fun h' he hit hsz hk => wpAny_pyIter_enum he ?_
    have I2 : Inv X pins σ H1 { s1 with heap := h' } := I1.kept (t' := s1.toks) hk
    refine ⟨s1.heap.objs.size + 1, [s1.heap.objs.size + 1, s1.heap.objs.size], _, _, H1, rfl, I2, turn_enumT a (s1.heap.objs.size + 1) s1.heap.objs.size, ⟨⟨.none, he⟩, hit, Nat.succ_ne_self _⟩, fun b hb => ?_, q⟩
    have e' : b = s1.heap.objs.size + 1 ∨ b = s1.heap.objs.size := by simpa using hb
    have hle : s1.heap.objs.size ≤ b := by
      rcases e' with z | z
      · rw [z]; exact Nat.le_add_right _ _
      · rw [z]; exact Nat.le_refl _
    exact I1.fpOk hle (I1.hok.fresh hle)
theorem walk_enumT {K : PySem.W.Frag} {a : Addr} {xs : List V} : Walk (IteT K a) xs.length (fun H => SqT K H a xs) (YPair (fun i => some (.int (i : Nat))) (fun i => xs[i]?)) where
  goes := fun i H hi h => ⟨xs, xs[i], h, List.getElem?_eq_getElem hi⟩
  stops := fun H h => ⟨xs, h, Nat.le_refl _⟩
  yields := fun i H v H' hi h ⟨T, x, e1, e2, e3, e4⟩ => ⟨T, _, x, e1, e2, e3, rfl, e4 xs h⟩
/-! ### for a, b in e.items(), the dict made by e itself: it stands locked from then on -/
/-! ### xs.extend(tuple) -/
theorem list_extend_tup (l : Addr) (items : Array Value) (n : Nat) (b : Addr) (o : Obj) (items2 : Array Value) (n2 : Nat) (hc : o.cls = .type "tuple") (hd : o.data = .seq items2 n2) (hs0 : ¬(!items.isEmpty && Builtin.List.listTooLong (items.size + items2.size)) = true) (hs1 : items.size ≤ sizeLine) (hs2 : items.size + items2.size ≤ sizeLine + 1) :
    Meets (Builtin.«list.extend» ⟨[.ref l, .ref b], []⟩) (fun _ R s => s.heap.get? l = some { cls := .type "list", dict := none, data := .seq items n, slots := #[] } ∧ s.heap.get? b = some o ∧ R (.ok (.ret Value.none)) { s with heap := s.heap.update l (Obj.mapSeq fun x => x ++ items2), toks := s.toks }) :=
  .of_wp fun prog w A R s h => by
    obtain ⟨hp, g, d, tk, os⟩ := s
    obtain ⟨hl, hb, h⟩ := h
    obtain ⟨c, dd, dt, sl⟩ := o
    simp only at hc hd
    subst hc hd
    have f1 := AutoSeq1.idx_int
    have f2 := AutoSeq1.sub_tuple_tuple
    have f3 := AutoSeq1.sub_list_list
    have f4 := AutoSeq1.sub_tuple_list
    have f5 := AutoSeq1.sub_list_tuple
    have hz' : (items ++ items2).size ≤ sizeLine + 1 := by rw [Array.size_append]; exact hs2
    wp_walk using (wpAny_updateSeq hl rfl (hz := hs1) (_hz' := hz')), AutoSeq1.wpAny_loadPart' hl, AutoSeq1.wpAny_loadPart' hb
    exact ⟨_, rfl, h⟩
def rExtendT (K : PySem.W.Frag) : V → List V → Hp → VK → Prop := fun x vs H Q => ∃ l b xs zs, x = .ref l ∧ vs = [.ref b] ∧ H l = some (.lst xs) ∧ SqT K H b zs ∧ xs.length + zs.length ≤ sizeLine ∧ Q .non (upd H l (.lst (xs ++ zs)))
theorem mt_extendT {X : Cx} : MtR X "list.extend" (rExtendT X.K) := by
  intro pins s σ H x vs v us Q I rx rv h
  obtain ⟨l, b, xs, zs, rfl, rfl, hH, hB, hz, q⟩ := h
  cases rx
  obtain ⟨u, rfl, ru⟩ := rv.one
  cases ru
  obtain ⟨z, its, n, r, hl, e⟩ := I.lstM hH
  obtain ⟨its2, r2, ⟨o, ho, hc, n2, hd⟩, hz2⟩ := I.tuple hB
  have hl2 := r2.length
  have hsz : its.toArray.size + its2.toArray.size ≤ sizeLine := by rw [List.size_toArray, List.size_toArray]; omega
  have hlong : ¬ (!its.toArray.isEmpty && Builtin.List.listTooLong (its.toArray.size + its2.toArray.size)) = true := by
    rw [notLongL hsz, Bool.and_false]
    exact Bool.false_ne_true
  refine call_meets F.slot_list_extend ⟨_, e, rfl⟩ F.entry_list_extend (F.args_list_extend_2 _ _)
    (list_extend_tup l its.toArray n b o its2.toArray n2 hc hd hlong (by rw [List.size_toArray]; omega) (by omega)) ⟨e, ho, ?_⟩
  refine ⟨.non, _, I.lset (its' := its ++ its2) hH e (by simp) (r.append r2) ?_, rfl, q⟩
  rw [List.length_append]
  omega
/-! ### t[::-1] -/
theorem adjust_rev (n : Nat) : Builtin.Slice.sliceAdjust none none (-1) (n : Int) = ((n : Int) - 1, -1) := by
  unfold Builtin.Slice.sliceAdjust
  simp
theorem places_rev (n : Nat) : Builtin.Slice.slicePlaces ((n : Int) - 1) (-1) (-1) = n := by
  unfold Builtin.Slice.slicePlaces
  rw [if_neg (by decide)]
  by_cases h : (n : Int) - 1 > -1
  · rw [if_pos h, show (- -1 : Int) = 1 by decide, Int.ediv_one]
    omega
  · rw [if_neg h]
    omega
theorem filterMap_same {α β : Type} {f g : α → Option β} : ∀ {l : List α}, (∀ k ∈ l, f k = g k) → l.filterMap f = l.filterMap g
  | [], _ => rfl
  | k :: r, h => by
    rw [List.filterMap_cons, List.filterMap_cons, h k List.mem_cons_self, filterMap_same fun j hj => h j (List.mem_cons_of_mem _ hj)]
theorem pick_rev (xs : Array Value) : ((List.range xs.size).filterMap fun (k : Nat) => xs[((xs.size : Int) - 1 + (k : Int) * (-1)).toNat]?).toArray = xs.toList.reverse.toArray := by
  have e : (List.range xs.size).filterMap (fun (k : Nat) => xs[((xs.size : Int) - 1 + (k : Int) * (-1)).toNat]?) = ((List.range xs.size).map fun k => xs.size - 1 - k).filterMap (xs[·]?) := by
    rw [List.filterMap_map]
    refine filterMap_same fun k hk => ?_
    have := List.mem_range.mp hk
    have e2 : ((xs.size : Int) - 1 + (k : Int) * (-1)).toNat = xs.size - 1 - k := by omega
    rw [e2]
    rfl
  rw [e, PySem.W.krv_range, List.filterMap_reverse, PySem.W.krv_all]
section
variable {prog : Program} {w : World} {A : Around} {E : Value → Shared → Prop} {s : Shared}
theorem sliceApplied_rev {sl : Addr} {vs : Value} {n : Nat} {Q : Int × Int × Nat → Shared → Prop} (hs : s.heap.IsSliceOf sl .none .none vs) (ps : IsPart vs (some (-1)))
    (h : Q ((n : Int) - 1, -1, n) s) : wpAny (model prog w) A (Builtin.Slice.sliceApplied (.ref sl) (pure (n : Int))) Q E s := by
  obtain ⟨os, hos, hcs, hds⟩ := id hs
  unfold Builtin.Slice.sliceApplied Builtin.Slice.sliceFields
  refine wpAny_bind (wpAny_bind (wpAny_field hos hds (x := .none) rfl (wpAny_bind (wpAny_field hos hds (x := .none) rfl (wpAny_bind (wpAny_field hos hds (x := vs) rfl (wpAny_pure ?_)))))))
  refine wpAny_bind (HT.slicePart_ ps ?_)
  show wpAny _ _ (if ((-1 : Int) == 0) = true then _ else _) _ _ s
  rw [if_neg (by decide)]
  refine wpAny_bind (slicePart_none (wpAny_bind (slicePart_none (wpAny_bind (wpAny_pure ?_)))))
  show wpAny _ _ (match Builtin.Slice.sliceAdjust none none (-1) (n : Int) with | (lo, hi) => pure (lo, (-1 : Int), Builtin.Slice.slicePlaces lo hi (-1))) _ _ s
  rw [adjust_rev n]
  show wpAny _ _ (pure ((n : Int) - 1, (-1 : Int), Builtin.Slice.slicePlaces ((n : Int) - 1) (-1) (-1))) _ _ s
  rw [places_rev]
  exact wpAny_pure h
theorem getItem_tuple_rev {t sl : Addr} {items : Array Value} {vs : Value} {Q : Value → Shared → Prop} (ht : IsTup s.heap t items) (hs : s.heap.IsSliceOf sl .none .none vs) (ps : IsPart vs (some (-1)))
    (h : Q (.ref s.heap.objs.size) { s with heap := s.heap.push { cls := .type "tuple", data := .seq items.toList.reverse.toArray } })
    (hsz : items.size ≤ sizeLine) : wpAny (model prog w) A (getItem (.ref t) (.ref sl)) Q E s := by
  have htake : sizeOk (.seq items.toList.reverse.toArray) := by
    show items.toList.reverse.toArray.size ≤ sizeLine
    rw [List.size_toArray, List.length_reverse, Array.length_toList]
    exact hsz
  obtain ⟨os, hos, hcs, hds⟩ := id hs
  have hTs : s.TypeIs (.ref sl) "slice" := ⟨os, hos, hcs⟩
  unfold getItem
  try with_reducible refine wpAny_holding ?_
  first | refine wpAny_bind (wpAny_pure ?_) | skip
  refine wpAny_bind (wpAny_sequenceKey ht.typeIs (by decide) ?_)
  refine wpAny_bind (wpAny_callSpecial?_slot (name := Str.ofString "__getitem__") ht.typeIs PyProof.Rows.slot_tuple_getitem
    (wpAny_call_entry PyProof.Rows.slot_tuple_getitem ht.typeIs entry_tuple_getitem ?_ (args_tuple_getitem _ _)))
  show wpAny _ _ (Builtin.Tuple.tupleItemsOf (.ref t) >>= _) _ _ s
  refine wpAny_bind (tupleItemsOf_ ht ?_)
  refine wpAny_bind (wpAny_typeOf hTs ?_)
  rw [if_pos (by decide)]
  refine wpAny_bind (sliceApplied_rev hs ps ?_)
  have hno : ¬ (((items.size : Int) - 1 == 0 && (-1 : Int) == 1 && items.size == items.size) = true) := by
    intro q
    rw [Bool.and_eq_true, Bool.and_eq_true] at q
    exact absurd q.1.2 (by decide)
  show wpAny _ _ (if ((items.size : Int) - 1 == 0 && (-1 : Int) == 1 && items.size == items.size) = true then _ else _) _ _ s
  rw [if_neg hno, pick_rev]
  first
    | exact wpAny_bind (m := Builtin.Tuple.tupleExact _) (wpAny_newObj_type (wpAny_pure ⟨_, rfl, wpAny_pure h⟩) htake)
    | exact wpAny_bind (m := Builtin.Tuple.tupleExact _) (wpAny_newObj_type (wpAny_bind (wpAny_pure (wpAny_pure ⟨_, rfl, wpAny_pure h⟩))) htake)
    | exact wpAny_bind (wpAny_bind (m := Builtin.Tuple.tupleExact _) (wpAny_newObj_type (wpAny_pure (wpAny_pure ⟨_, rfl, wpAny_pure h⟩)) htake))
    | exact wpAny_bind (wpAny_bind (m := Builtin.Tuple.tupleExact _) (wpAny_newObj_type (wpAny_pure ⟨_, rfl, wpAny_pure h⟩) htake))
end
end Tw

namespace Tw
open PySem PySem.Spec PyProof.Rows L2
/-! ### defs that are called while no repr is under way -/
/-- room, and nothing under way -/
structure Rm (k : Nat) (A : Around) : Prop where
  rm : Room k A
  gd : A.guards = some []
theorem Rm.mono {j k : Nat} {A : Around} (r : Rm k A) (h : j ≤ k) : Rm j A := ⟨r.rm.mono h, r.gd⟩
theorem Rm.deep {k : Nat} {A : Around} (r : Rm (k + 1) A) (env : Env) : Rm k (A.deeper env) := ⟨r.rm.deeper env, r.gd⟩
structure FnG (P : Program) (w : World) (K : PySem.W.Frag) (mg : Str → Option Value) (base : Heap) (CX : CXT) (k : Nat) (f : Addr) (fd : FuncData) (ps : List Str) (sp : Sp) : Prop where
  ln : ∀ vs H Q E, sp vs H Q E → vs.length = ps.length
  go : ∀ (A : Around) (outer : List Env) (s : Shared) (H : Hp) (args : Args) (us : List Value) (vs : List V) (Q : VK) (E : XK), Rm k A → Env0 P w K mg base A outer s H → BindsTo s fd args (ps.zip us) → Vals vs us → sp vs H Q E →
    codeAny (model P w) A (.call (.ref f) args) (CR CX outer P w H s Q E) s
section
variable {P : Program} {w : World} {K : PySem.W.Frag} {mg : Str → Option Value} {base : Heap} {CX : CXT} {k : Nat} {f : Addr} {fd : FuncData} {N ps : List Str} {sp : Sp}
theorem FnG.mono {j : Nat} (F : FnG P w K mg base CX j f fd ps sp) (h : j ≤ k) : FnG P w K mg base CX k f fd ps sp :=
  ⟨F.ln, fun A outer s H args us vs Q E r => F.go A outer s H args us vs Q E (r.mono h)⟩
theorem FnG.imp {sp' : Sp} (F : FnG P w K mg base CX k f fd ps sp) (h : ∀ vs H Q E, sp' vs H Q E → sp vs H Q E) : FnG P w K mg base CX k f fd ps sp' :=
  ⟨fun vs H Q E q => F.ln vs H Q E (h vs H Q E q), fun A outer s H args us vs Q E r e b v q => F.go A outer s H args us vs Q E r e b v (h vs H Q E q)⟩
theorem fnG_of {name qual : Str} {params : Arguments} {body : List Stmt} {scope : Scope} {dV kV doc pm cdv ct oc : Value} {an od : Option Addr} {osl : Array (Option Value)}
    (lk : K.lookup f = some ⟨oc, od, .func (PySem.W.fnOf name qual params body scope dV kV doc pm an cdv ct), osl⟩) (hcd : PySem.W.codeIn K cdv qual = true) (S : FnScope N ps scope) (ln : ∀ vs H Q E, sp vs H Q E → vs.length = ps.length)
    (hbody : ∀ (A : Around) (outer : List Env) (s : Shared) (H : Hp) (vs : List V) (Q : VK) (E : XK), Rm k (A.deeper (envOfC qual scope s.heap.objs.size f cdv)) → sp vs H Q E →
      ∃ t, PSs (cxOf CX P w K mg base N qual scope f cdv A outer s H E) body t ∧ t { nx := fun _ H' => Q .non H', rt := Q } (start N vs) H) :
    FnG P w K mg base CX (k + 1) f (PySem.W.fnOf name qual params body scope dV kV doc pm an cdv ct) ps sp := by
  constructor
  · exact ln
  intro A outer s H args us vs Q E rm env0 hbind rv hsp
  have vl := ln _ _ _ _ hsp
  have kin : K.In s.heap := env0.mod.kin.keeps fun z y q => (env0.bs z y q).1
  have nol : s.heap.NoLimit := env0.mod.nolimit.keeps fun z y q => (env0.bs z y q).1
  have kinds : ∀ z ∈ ps.zip us, scope.names.lookup z.1 = some .local ∨ (scope.names.lookup z.1 = some .cell ∧ ((cellsFrom (s.heap.objs.size + 1) scope.names []).lookup z.1).isSome = true) := by
    rintro ⟨n, v⟩ hz
    exact (S.par n (List.of_mem_zip hz).1).imp id fun c => ⟨c, PySem.W.cellsFrom_some _ _ _ (.inl c)⟩
  refine codeAny_call_function rm.rm.depth (kin _ _ lk) rfl S.co S.gen rfl (PySem.W.codeRec_of kin hcd) ?_
  refine hbind _ _ _ _ (wpAny_newFunctionEnv_cells S.kind kinds ?_)
  rintro env rfl s1 x
  obtain ⟨t, der, prem⟩ := hbody A outer s H vs Q E (rm.deep _) hsp
  have inv : Inv (cxOf CX P w K mg base N qual scope f cdv A outer s H E) [] (start N vs) H s1 := inv_start S rm.rm.hd env0 vl rv x
  refine ⟨nol.keeps x.toInCall.keep, codeAny_func (wpAny_mono (der.run [] s1 (start N vs) H _ inv prem) ?_ fun _ _ q => q)⟩
  intro fl s' hs
  cases fl with
  | brk => exact absurd hs fun ⟨_, _, _, q⟩ => q
  | cont => exact absurd hs fun ⟨_, _, _, q⟩ => q
  | next =>
    obtain ⟨_, H', J, q⟩ := hs
    exact ⟨V.non, H', J.os, J.bare, J.base, J.hok, rfl, q⟩
  | ret u =>
    obtain ⟨v, _, H', J, rv, q⟩ := hs
    exact ⟨v, H', J.os, J.bare, J.base, J.hok, rv, q⟩
theorem funD_okG {x qual : Str} {params : Arguments} {body : List Stmt} {scope : Scope} (F : FunD K x qual params body scope [] [] f fd) (S : FnScope N ps scope) (ln : ∀ vs H Q E, sp vs H Q E → vs.length = ps.length)
    (hbody : ∀ (cdv : Value) (A : Around) (outer : List Env) (s : Shared) (H : Hp) (vs : List V) (Q : VK) (E : XK), Rm k (A.deeper (envOfC qual scope s.heap.objs.size f cdv)) → sp vs H Q E →
      ∃ t, PSs (cxOf CX P w K mg base N qual scope f cdv A outer s H E) body t ∧ t { nx := fun _ H' => Q .non H', rt := Q } (start N vs) H) : FnG P w K mg base CX (k + 1) f fd ps sp := by
  obtain ⟨oc, od, dV, kV, doc, pm, an, cdv, ct, osl, rfl, lk, hcd, _, _⟩ := F.ex
  exact fnG_of lk hcd S ln (hbody cdv)
end
section
variable {X : Cx} {CX : CXT} {k : Nat} {f : Addr} {fd : FuncData} {ps : List Str} {sp : Sp} {E : XK} {x : Str} {p pos : Pos} {e : Expr} {es : List Expr} {t : TA}
end
/-! ### the law, called by the claim's caller -/
theorem law_callG {P : Program} {w : World} {K : PySem.W.Frag} {mg mb : Str → Option Value} {CX : CXT} {k : Nat} {fa a : Addr} {fd : FuncData} {x : Str} {sp : Sp} {s₁ : Shared} {vs : List Value} {ns : List Int}
    (kin : K.In s₁.heap) (gns : s₁.heap.Ns mainGlobals mg) (bns : s₁.heap.Ns builtinsNs mb) (bmb : ∀ x : Str, x ≠ "__name__" → mb x = bootBuiltins x) (nol : s₁.heap.NoLimit) (g0 : s₁.gens = #[])
    (ha : s₁.heap.get? a = some { cls := .type "list", data := .seq vs.toArray }) (ia : IntsAre vs ns) (few : ns.length ≤ sizeLine) (rm : Rm k callerA)
    (F : ∀ base : Heap, K.In base → base.Ns mainGlobals mg → FnG P w K mg base CX k fa fd [x] sp) (bnd : ∀ (s : Shared) (u : Value), BindsTo s fd ⟨[u], []⟩ [(x, u)])
    (hsp : ∀ H : Hp, Only H → SqL K H a (ns.map V.int) → sp [.ref a] H (fun v _ => v = .bl true) fun _ _ _ => False) (nox : ∀ H e s', CX [] H s₁ (fun _ _ _ => False) e s' → False) :
    codeAny (model P w) callerA (.call (.ref fa) ⟨[.ref a], []⟩) (fun r s' => r = .ok (.ret (.bool true)) ∧ OldK s₁.heap s'.heap ∧ s'.os = s₁.os ∧ AllBare s'.gens) s₁ := by
  have ia' := vals_ints ia
  have len := ia.length
  have main : ∀ H : Hp, Only H ∧ SqL K H a (ns.map V.int) ∧ HOk P w H s₁.heap ∧ (∀ b, H b ≠ none → b = a ∧ K.lookup a = none) →
      codeAny (model P w) callerA (.call (.ref fa) ⟨[.ref a], []⟩) (fun r s' => r = .ok (.ret (.bool true)) ∧ OldK s₁.heap s'.heap ∧ s'.os = s₁.os ∧ AllBare s'.gens) s₁ := by
    rintro H ⟨hO, hS, hok, hA⟩
    have un : ∀ b, b ≠ a → H b = none := fun b n => Classical.byContradiction fun z => n (hA b z).1
    have keep : ∀ {b : Addr} {o : Obj}, s₁.heap.get? b = some o → b ≠ a ∨ K.lookup a ≠ none → (hidT s₁.heap H).get? b = some o := fun {b o} e z => hidT_get e (by
      rcases z with z | z
      · exact un b z
      · exact Classical.byContradiction fun y => z (hA b y).2)
    have nsk : ∀ {b : Addr} {m : Str → Option Value}, s₁.heap.Ns b m → (hidT s₁.heap H).Ns b m := by
      rintro b m ⟨o, es, ep, e, d, r⟩
      refine ⟨o, es, ep, keep e (.inl ?_), d, r⟩
      rintro rfl
      have z := ha.symm.trans e
      cases z
      cases d
    have kin' : K.In (hidT s₁.heap H) := fun b o e => keep (kin b o e) (by
      by_cases z : b = a
      · subst z
        exact .inr (by rw [e]; simp)
      · exact .inl z)
    obtain ⟨mc, l1, l2⟩ := nol
    have env : Env0 P w K mg (hidT s₁.heap H) callerA [] s₁ H :=
      { frames := rfl, mod := ⟨kin', nsk gns, ⟨mb, nsk bns, bmb⟩, mc, nsk l1, l2⟩, bs := fun b o e => of_hidT e, bsz := Nat.le_of_eq (hidT_size _ _), funs := trivial, frf := (fun b z => nomatch z), hok := hok, bare := .of_eq g0 }
    have run := (F _ kin' (nsk gns)).go callerA [] s₁ H ⟨[.ref a], []⟩ [.ref a] [.ref a] _ _ rm env (bnd s₁ (.ref a)) (.cons rfl .nil) (hsp H hO hS)
    refine codeAny_mono run ?_
    intro r s' q
    match r, q with
    | .error e, q => exact (nox H e s' q).elim
    | .ok (.ret u), q =>
      obtain ⟨v, H', os, bare, un', hok', rv, qv⟩ := q
      have qv' : v = .bl true := qv
      subst qv'
      have ru : u = Value.bool true := rv
      subst ru
      refine ⟨rfl, OldK.of_keep ?_, os, bare⟩
      intro b o e
      rcases hO b with z | ⟨ob, xs, z⟩
      · exact un'.keep b o e z (fun y => nomatch y) (fun y => nomatch y)
      · have e1 := (hok b _ z).1
        have e2 := (hok' b _ (un'.frzs b ob _ z)).1
        exact e2.trans (e1.symm.trans e)
  by_cases hk : K.lookup a = none
  · refine main (fun b => if b = a then some (.frz { cls := .type "list", data := .seq vs.toArray } (.lst (ns.map V.int))) else none) ⟨fun b => ?_, .inl (.inr ⟨{ cls := .type "list", data := .seq vs.toArray }, if_pos rfl⟩), fun b u z => ?_, fun b z => ?_⟩
    · by_cases y : b = a
      · exact .inr ⟨_, _, if_pos y⟩
      · exact .inl (if_neg y)
    · by_cases y : b = a
      · subst y
        have z' := (if_pos rfl).symm.trans z
        cases z'
        exact ⟨ha, by rw [List.length_map]; exact few, vs, _, ia', ha⟩
      · exact nomatch ((if_neg y).symm.trans z)
    · by_cases y : b = a
      · exact ⟨y, hk⟩
      · exact absurd (if_neg y) z
  · obtain ⟨o, ho⟩ := Option.ne_none_iff_exists'.mp hk
    have z := ha.symm.trans (kin a o ho)
    cases z
    exact main (fun _ => none) ⟨fun _ => .inl rfl, .inr ⟨_, vs.toArray, _, ho, rfl, rfl, rfl, by rw [List.size_toArray, len]; exact few, by simpa using ia'⟩, (fun b u z => nomatch (show (none : Option HO) = some u from z)), fun b z => absurd rfl z⟩
theorem walk_ofG {l : PySem.W.OpenLaw} {n k : Nat} {q : Program} {loose : List Str} {XP : (Str → Option Value) → Heap → Prop} {YP : World → Heap → Prop} {d : DefRec} {CX : CXT} {x : Str}
    (hn : l.most = some n) (small : n ≤ sizeLine) (nodef : d.params.defaults = []) (rm : Rm k callerA)
    (F : ∀ (w : World) (mg : Str → Option Value) (fa : Addr) (h : Heap), YP w h → h.Ns mainGlobals mg → mg d.name = some (.ref fa) →
      ∃ (K : PySem.W.Frag) (fd : FuncData) (sp : Sp), K.In h ∧ (∀ (s : Shared) (u : Value), BindsTo s fd ⟨[u], []⟩ [(x, u)]) ∧
        (∀ (H : Hp) (a : Addr) (ns : List Int), ns.length ≤ n → Only H → SqL K H a (ns.map V.int) → sp [.ref a] H (fun v _ => v = .bl true) fun _ _ _ => False) ∧
        ∀ base : Heap, K.In base → base.Ns mainGlobals mg → FnG l.prog w K mg base CX k fa fd [x] sp)
    (nox : ∀ (H : Hp) (s : Shared) (e : Value) (s' : Shared), CX [] H s (fun _ _ _ => False) e s' → False) :
    PySem.W.WalkO q loose XP YP l.row.toRowW d [] (fun f vs => PySem.call f vs) := by
  refine Att.attach_call hn nodef ?_
  intro w s₀ s₁ mg mb fa o pm cd doc a vs ns G Y ho hd hcd hmg hobj hints hlen hg
  obtain ⟨K, fd, sp, kin, bnd, hsp, hF⟩ := F w mg fa _ Y G.T.g hmg
  exact law_callG kin G.T.g G.T.b G.T.builtins G.T.nolimit hg hobj hints (Nat.le_trans hlen small) rm hF bnd (fun H hO hS => hsp H a ns hlen hO hS) fun H e s' => nox H s₁ e s'
end Tw

namespace Tw
open PySem PySem.Spec PyProof.Rows L2
/-! ### repr of data -/
section
variable {X : Cx} {k : Nat}
end
end Tw

namespace Tw
open PySem PySem.Spec PyProof.Rows L2
/-! ### min, max of two ints -/
def rMin2 : List V → Hp → VK → Prop := fun xs H Q => ∃ i j, xs = [.int i, .int j] ∧ Q (.int (if j < i then j else i)) H
/-! ### t.index(text) -/
/-! ### list(d.keys()) -/
theorem paired_getR {α β : Type} {R : α → β → Prop} : ∀ {xs : List α} {ys : List β} {i : Nat} {y : β}, Paired R xs ys → ys[i]? = some y → ∃ x, xs[i]? = some x ∧ R x y
  | _, _, _, _, .nil, e => by cases e
  | _, _, 0, _, .cons h _, e => ⟨_, rfl, by cases e; exact h⟩
  | _, _, i + 1, _, .cons _ r, e => paired_getR (i := i) r e
section
variable {X : Cx} {e : Expr} {td : TE} {x : Str} {p pos apos cpos : Pos}
end
end Tw

namespace Tw
open PySem PySem.Spec PyProof.Rows L2
/-! ### rules of several kinds in one -/
def orR (r s : R2) : R2 := fun x y H Q => r x y H Q ∨ s x y H Q
theorem op_or {X : Cx} {f : Value → Value → Sem Value} {r s : R2} (h : OpR X f r) (h' : OpR X f s) : OpR X f (orR r s) := by
  intro pins st σ H x y v u Q I rx ry q
  rcases q with q | q
  · exact h pins st σ H x y v u Q I rx ry q
  · exact h' pins st σ H x y v u Q I rx ry q
def orC (r s : List V → Hp → VK → Prop) : List V → Hp → VK → Prop := fun xs H Q => r xs H Q ∨ s xs H Q
theorem cr_or {X : Cx} {f : Value} {r s : List V → Hp → VK → Prop} (h : CallR X f r) (h' : CallR X f s) : CallR X f (orC r s) := by
  intro pins st σ H xs us Q I r q
  rcases q with q | q
  · exact h pins st σ H xs us Q I r q
  · exact h' pins st σ H xs us Q I r q
/-- == of plain data, one of both not too deep -/
def rEqM (K : PySem.W.Frag) : R2 := fun x y H Q => ∃ d e, Dp K H x d ∧ Dp K H y e ∧ d.plain = true ∧ e.plain = true ∧ min d.depth e.depth ≤ 190 ∧ Q (.bl (PyData.eqv d e)) H
def rNeM (K : PySem.W.Frag) : R2 := fun x y H Q => ∃ d e, Dp K H x d ∧ Dp K H y e ∧ d.plain = true ∧ e.plain = true ∧ min d.depth e.depth ≤ 190 ∧ Q (.bl (!PyData.eqv d e)) H
section
variable {X : Cx}
theorem op_eqM (hu : X.A.units + 200 < cLine) : OpR X (compareOp .Eq) (rEqM X.K) := by
  intro pins s σ H x y v u Q I rx ry h
  obtain ⟨d, e, hd, he, pd, pe, dd, q⟩ := h
  obtain ⟨as, ra⟩ := Dp.reads I d x v hd rx
  obtain ⟨bs, rb⟩ := Dp.reads I e y u he ry
  exact SeqAt.eq_plain ra rb pd pe (by omega) ⟨.bl _, H, I, rfl, q⟩
theorem op_neM (hu : X.A.units + 200 < cLine) : OpR X (compareOp .NotEq) (rNeM X.K) := by
  intro pins s σ H x y v u Q I rx ry h
  obtain ⟨d, e, hd, he, pd, pe, dd, q⟩ := h
  obtain ⟨as, ra⟩ := Dp.reads I d x v hd rx
  obtain ⟨bs, rb⟩ := Dp.reads I e y u he ry
  exact SeqAt.ne_plain ra rb pd pe (by omega) ⟨.bl _, H, I, rfl, q⟩
def rEqU (K : PySem.W.Frag) : R2 := orR (rEqM K) (rEqE K)
def rNeU (K : PySem.W.Frag) : R2 := orR (rNeM K) (rNeE K)
theorem op_eqU {k : Nat} (hr : Room k X.A) : OpR X (compareOp .Eq) (rEqU X.K) := op_or (op_eqM (room_eq hr)) (op_eqE (hu_of hr))
theorem op_neU {k : Nat} (hr : Room k X.A) : OpR X (compareOp .NotEq) (rNeU X.K) := op_or (op_neM (room_eq hr)) (op_neE (hu_of hr))
def rMulU : R2 := orR rMulI (orR rRepS rRep)
theorem op_mulU : OpR X (binaryOp .Mult) rMulU := op_or op_mul (op_or op_repS op_rep)
def rLtU : R2 := orR rLtI rLtS
theorem op_ltU : OpR X (compareOp .Lt) rLtU := op_or op_lt op_lt_str
def rInM (K : PySem.W.Frag) (neg : Bool) : R2 := fun x y H Q => ∃ d ds, Dp K H x d ∧ (Dp K H y (.list ds) ∨ Dp K H y (.tuple ds)) ∧ d.plain = true ∧ PyData.plainAll ds = true ∧ min (PyData.depthAll ds) d.depth ≤ 190 ∧ Q (.bl (if neg then !(ds.any fun z => PyData.eqv z d) else ds.any fun z => PyData.eqv z d)) H
theorem op_inM (hu : X.A.units + 200 < cLine) : OpR X (compareOp .In) (rInM X.K false) := by
  intro pins s σ H x y v u Q I rx ry h
  obtain ⟨d, ds, hd, he, pd, pe, dd, q⟩ := h
  obtain ⟨as, ra⟩ := Dp.reads I d x v hd rx
  rcases he with he | he
  · obtain ⟨bs, rb⟩ := Dp.reads I _ y u he ry
    exact SeqAt.in_list_data rb ra pe pd (by omega) ⟨.bl _, H, I, rfl, q⟩
  · obtain ⟨bs, rb⟩ := Dp.reads I _ y u he ry
    exact SeqAt.in_tuple_data rb ra pe pd (by omega) ⟨.bl _, H, I, rfl, q⟩
def rInU (K : PySem.W.Frag) (neg : Bool) : R2 := orR (rInM K neg) (orR (rInA K neg) (if neg then rNotInS else rInS))
theorem op_inU {k : Nat} (hr : Room k X.A) : OpR X (compareOp .In) (rInU X.K false) := op_or (op_inM (room_eq hr)) (op_or (op_inA (hu_of hr)) op_inS)
def rLenU (K : PySem.W.Frag) : List V → Hp → VK → Prop := orC (rLenV K) rLenD
theorem call_lenR : CallR X (.builtin "len") rLenD := by
  intro pins s σ H xs us Q I r h
  obtain ⟨a, kvs, rfl, hd, q⟩ := h
  obtain ⟨u, rfl, ru⟩ := vals1 r
  cases ru
  exact d_len I hd fun t s' I' => ⟨.int _, H, I', ⟨t, rfl⟩, q⟩
theorem call_lenU : CallR X (.builtin "len") (rLenU X.K) := cr_or call_len call_lenR
end
/-! ### tuples that are known to have no dict of their own -/
def tTupF (t : TA) : TE := fun σ H Q => t σ H fun xs H1 => xs.length ≤ sizeLine ∧ ∀ p (ob : Obj), H1 p = none → ob.dict = none → Q (.ref p) (upd H1 p (.frz ob (.tup xs)))
section
variable {X : Cx} {es : List Expr} {t : TA} {pos : Pos}
theorem pe_tupF {x1} (h : PA X es t) : PE X (.Tuple es x1 pos) (tTupF t) := by
  refine ⟨fun pins s σ H Q I hq => ?_⟩
  refine wpAny_Tuple_spliced (thn (h.run pos pins s σ H _ I hq) fun us s1 ⟨xs, H1, I1, r, z, q⟩ => ⟨by rw [← r.length]; exact z, ?_⟩)
  have hf : H1 s1.heap.objs.size = none := I1.hok.fresh (Nat.le_refl _)
  refine ⟨.ref s1.heap.objs.size, upd H1 s1.heap.objs.size (.frz _ (.tup xs)), I1.laid (t' := s1.toks) (fun b u e => Heap.get?_push_of_some _ e) (Nat.le_refl _) ?_, rfl, q _ { cls := .type "tuple", data := .seq us.toArray } hf rfl⟩
  exact ⟨Heap.get?_push_size _ rfl, z, us, r, ⟨_, Heap.get?_push_size _ rfl, rfl, _, rfl⟩⟩
def rTupOfF (K : PySem.W.Frag) : List V → Hp → VK → Prop := fun xs H Q => ∃ p ys, xs = [.ref p] ∧ ((SqL K H p ys ∧ ∀ l (ob : Obj), H l = none → ob.dict = none → Q (.ref l) (upd H l (.frz ob (.tup ys)))) ∨ (SqT K H p ys ∧ Q (.ref p) H))
theorem call_tupleF : CallR X (.type "tuple") (rTupOfF X.K) := by
  intro pins s σ H xs us Q I r h
  obtain ⟨p, ys, rfl, h⟩ := h
  obtain ⟨u, rfl, rx⟩ := vals1 r
  cases rx
  rcases h with ⟨hq, q⟩ | ⟨hq, q⟩
  · obtain ⟨its, r', pl, hz⟩ := I.list hq
    have hlen := r'.length
    refine call_tuple_list pl.isList (fun h' kp => ?_) (by simp only [List.size_toArray] <;> omega)
    have I1 : Inv X pins σ H { s with heap := h' } := I.kept (t' := s.toks) kp
    have I2 : Inv X pins σ (upd H h'.objs.size (.frz { cls := .type "tuple", data := .seq its.toArray } (.tup ys))) { s with heap := h'.push { cls := .type "tuple", data := .seq its.toArray } } :=
      I1.laid (t' := s.toks) (fun b o e => Heap.get?_push_of_some _ e) (Nat.le_refl _) (show ObjOk X.prog X.w _ _ _ (.frz _ (.tup ys)) from ⟨Heap.get?_push_size _ rfl, hz, its, r', IsTup.new _ _⟩)
    exact ⟨.ref h'.objs.size, _, I2, rfl, q _ _ (I1.hok.fresh (Nat.le_refl _)) rfl⟩
  · obtain ⟨its, r', pl, hz⟩ := I.tuple hq
    exact call_tuple_same pl ⟨.ref p, H, I, rfl, q⟩
def rCatF (K : PySem.W.Frag) : R2 := fun x y H Q => ∃ a b xs ys, x = .ref a ∧ y = .ref b ∧ SqT K H a xs ∧ SqT K H b ys ∧ xs.length + ys.length ≤ sizeLine ∧
  (xs = [] → Q (.ref b) H) ∧ (xs ≠ [] → ys = [] → Q (.ref a) H) ∧ (xs ≠ [] → ys ≠ [] → ∀ p (ob : Obj), H p = none → ob.dict = none → Q (.ref p) (upd H p (.frz ob (.tup (xs ++ ys)))))
theorem op_catF : OpR X (binaryOp .Add) (rCatF X.K) := by
  intro pins s σ H x y v u Q I rx ry h
  obtain ⟨a, b, xs, ys, rfl, rfl, ha, hb, hz, q0, q1, q2⟩ := h
  cases rx
  cases ry
  obtain ⟨its, r1, p1, _⟩ := I.tuple ha
  obtain ⟨its2, r2, p2, _⟩ := I.tuple hb
  by_cases hx : xs = []
  · subst hx
    cases r1
    exact cat_tup0 p1 p2 ⟨.ref b, H, I, rfl, q0 rfl⟩
  · refine HT.cat_tup p1 p2 (fun z => hx (r1.nil_iff.mp z)) (fun z => ⟨.ref a, H, I, rfl, q1 hx (r2.nil_iff.mp z)⟩) (fun z => ?_) (by rw [← r1.length, ← r2.length]; exact hz)
    refine ⟨.ref s.heap.objs.size, _, I.laid (t' := s.toks) (o := .frz { cls := .type "tuple", data := .seq (its ++ its2).toArray } (.tup (xs ++ ys))) (fun b ob q => Heap.get?_push_of_some _ q) (Nat.le_refl _) ?_, rfl, q2 hx (fun w => z (r2.nil_iff.mpr w)) _ _ (I.hok.fresh (Nat.le_refl _)) rfl⟩
    exact ⟨Heap.get?_push_size _ rfl, by rw [List.length_append]; exact hz, _, r1.append r2, IsTup.new _ _⟩
def rSlF (K : PySem.W.Frag) : V → Option Int → Option Int → Hp → VK → Prop := fun x lo hi H Q => ∃ a xs, x = .ref a ∧ SqT K H a xs ∧
  (HT.sIx xs.length 0 lo = 0 ∧ HT.sIx xs.length xs.length hi = xs.length → Q (.ref a) H) ∧ (¬ (HT.sIx xs.length 0 lo = 0 ∧ HT.sIx xs.length xs.length hi = xs.length) → ∀ p (ob : Obj), H p = none → ob.dict = none → Q (.ref p) (upd H p (.frz ob (.tup (cutV xs lo hi)))))
theorem sl_tupF : SlR X (rSlF X.K) := by
  intro pins s σ H x v vl vu lo hi sl Q I rx hs pl pu h
  obtain ⟨a, xs, rfl, hx, q1, q2⟩ := h
  cases rx
  obtain ⟨its, r, ht, hz⟩ := I.tuple hx
  have hlen : its.toArray.size = xs.length := by rw [List.size_toArray]; exact r.length.symm
  refine ⟨"tuple", _, PyProof.Rows.slot_tuple_getitem.lookup, ht.typeIs, ?_⟩
  by_cases hw : HT.sIx xs.length 0 lo = 0 ∧ HT.sIx xs.length xs.length hi = xs.length
  · exact getItem_tuple_whole ht hs pl pu (by rw [hlen]; exact hw) ⟨.ref a, H, I, rfl, q1 hw⟩
  · refine HT.getItem_tuple_cut ht hs pl pu (by rw [hlen]; exact hw) ?_ (by rw [hlen]; exact hz)
    rw [hlen]
    refine ⟨.ref s.heap.objs.size, _, I.laid (t' := s.toks) (o := .frz { cls := .type "tuple", data := .seq ((its.drop (HT.sIx xs.length 0 lo)).take (HT.sIx xs.length xs.length hi - HT.sIx xs.length 0 lo)).toArray } (.tup (cutV xs lo hi))) (fun b ob q => Heap.get?_push_of_some _ q) (Nat.le_refl _) ?_, rfl, q2 hw _ _ (I.hok.fresh (Nat.le_refl _)) rfl⟩
    · exact ⟨Heap.get?_push_size _ rfl, Nat.le_trans (cutV_length xs lo hi) hz, _, (r.drop (HT.sIx xs.length 0 lo)).take (HT.sIx xs.length xs.length hi - HT.sIx xs.length 0 lo), IsTup.new _ _⟩
def rSlU (K : PySem.W.Frag) : V → Option Int → Option Int → Hp → VK → Prop := fun x lo hi H Q => rSlF K x lo hi H Q ∨ (rSlL K x lo hi H Q ∨ rSlS x lo hi H Q)
theorem sl_U : SlR X (rSlU X.K) := SlR.or sl_tupF (SlR.or sl_list sl_str)
end
def tRevF (K : PySem.W.Frag) (te : TE) : TE := fun σ H Q => te σ H fun x H1 => ∃ a xs, x = .ref a ∧ SqT K H1 a xs ∧ ∀ p (ob : Obj), H1 p = none → ob.dict = none → Q (.ref p) (upd H1 p (.frz ob (.tup xs.reverse)))
theorem pe_revF {X : Cx} {e : Expr} {te : TE} {k : Nat} {p1 p2 p3 pos : Pos} (he : PE X e te) : PE X (.Subscript e (.Slice none none (some (.UnaryOp .USub (.Constant (.int 1) k p1) p2)) p3) pos) (tRevF X.K te) := by
  refine ⟨fun pins s σ H Q I h => ?_⟩
  refine Subscript_ (thn (he.run pins s σ H _ I h) fun v s1 ⟨x, H1, I1, r1, q1⟩ => ?_)
  obtain ⟨a, xs, ex, hx, q⟩ := q1
  subst ex
  cases r1
  have hst : PO X (some (.UnaryOp .USub (.Constant (.int 1) k p1) p2)) (tPart (tUn (rU fun i => .int (-i)) (tC (.int 1)))) := po_some (pe_un un_neg pe_int)
  refine wpAny_Slice (thn (po_none.run pins s1 σ H1 (fun o H2 => o = none ∧ H2 = H1) I1 ⟨rfl, rfl⟩) fun vl s2 ⟨l, H2, I2, pl, el, e2⟩ => ?_)
  subst el e2
  refine thn (po_none.run pins s2 σ H2 (fun o H3 => o = none ∧ H3 = H2) I2 ⟨rfl, rfl⟩) fun vu s3 ⟨u, H3, I3, pu, eu, e3⟩ => ?_
  subst eu e3
  refine thn (hst.run pins s3 σ H3 (fun o H4 => o = some (-1) ∧ H4 = H3) I3 ⟨1, rfl, -1, rfl, rfl, rfl⟩) fun vs s4 ⟨o, H4, I4, ps, eo, e4⟩ => ?_
  subst eo e4
  have I5 : Inv X pins σ H4 { s4 with heap := s4.heap.push { cls := .type "slice", data := .fields #[vl, vu, vs] } } := I4.kept (t' := s4.toks) fun b ob q => Heap.get?_push_of_some _ q
  obtain ⟨its, r, ht, hz⟩ := I5.tuple hx
  have hlen := r.length
  cases pl
  cases pu
  show wpAny (model X.prog X.w) X.A (subscriptTail e (.Slice none none (some (.UnaryOp .USub (.Constant (.int 1) k p1) p2)) p3) (.ref a) (.ref s4.heap.objs.size)) (EP X pins σ Q) X.xe { s4 with heap := s4.heap.push { cls := .type "slice", data := .fields #[.none, .none, vs] } }
  refine tail_any (ops := [.ref a, .ref s4.heap.objs.size]) ht.typeIs (PyProof.Rows.slot_tuple_getitem.lookup) ?_ (by with_unfolding_all rfl)
  refine getItem_tuple_rev ht (Heap.IsSliceOf.new _ .none .none vs) ps ?_ (by rw [List.size_toArray]; omega)
  refine ⟨.ref _, _, I5.laid (t' := s4.toks) (o := .frz { cls := .type "tuple", data := .seq its.reverse.toArray } (.tup xs.reverse)) (fun b ob q => Heap.get?_push_of_some _ q) (Nat.le_refl _) ?_, rfl, q _ { cls := .type "tuple", data := .seq its.reverse.toArray } (I5.hok.fresh (Nat.le_refl _)) rfl⟩
  exact ⟨Heap.get?_push_size _ rfl, by rw [List.length_reverse]; exact hz, _, r.reverse, _, Heap.get?_push_size _ rfl, rfl, _, rfl⟩
/-! ### t.index(x) -/
section
variable {X : Cx} {o e : Expr} {es : List Expr} {to : TE} {t : TA} {name : Str} {apos cpos : Pos} {id : String} {r : V → List V → Hp → VK → Prop}
end
section
variable {X : Cx}
def rAddU (K : PySem.W.Frag) : R2 := orR rAddI (orR rAddS (orR (rCatF K) rCat))
theorem op_addU : OpR X (binaryOp .Add) (rAddU X.K) := op_or op_add (op_or op_add_str (op_or op_catF op_cat))
end
end Tw

namespace Tw
open PySem PySem.Spec PyProof.Rows L2
/-- the written part, with the program and the world that sets and dicts of own kinds are told by -/
structure KW where
  K : PySem.W.Frag
  P : Program
  w : World
  /-- the tables of code objects that lambdas are made with, and the names of these -/
  T : List (Addr × Str) := []
instance : Coe KW PySem.W.Frag := ⟨KW.K⟩
abbrev kw (P : Program) (w : World) (K : PySem.W.Frag) : KW := ⟨K, P, w, []⟩
/-! ### values without a heap: data that is never changed, and things that one slot owns -/
abbrev Dt := PyData
def kD : Key → Dt
  | .inl i => .int i
  | .inr x => .str x
/-- a tuple that is known to have no dict of its own -/
def TupN (K : PySem.W.Frag) (F : Hp) (a : Addr) (xs : List V) : Prop := (∃ ob : Obj, F a = some (.frz ob (.tup xs)) ∧ ob.dict = none) ∨
  ∃ (o : Obj) (its : Array Value) (n : Nat), K.lookup a = some o ∧ o.cls = .type "tuple" ∧ o.dict = none ∧ o.data = .seq its n ∧ its.size ≤ sizeLine ∧ Vals xs its.toList
theorem TupN.sq {K : PySem.W.Frag} {F : Hp} {a : Addr} {xs : List V} (h : TupN K F a xs) : SqT K F a xs := by
  rcases h with ⟨ob, h, _⟩ | ⟨o, its, n, h1, h2, h3, h4, h5, h6⟩
  · exact .inl (.inr ⟨ob, h⟩)
  · exact .inr ⟨o, its, n, h1, h2, h4, h5, h6⟩
theorem TupN.same {K : PySem.W.Frag} {F F' : Hp} {a : Addr} {xs : List V} (s : Same F F') (h : TupN K F a xs) : TupN K F' a xs := by
  rcases h with ⟨ob, h, d⟩ | h
  · exact .inl ⟨ob, s _ _ h, d⟩
  · exact .inr h
mutual
/-- the value v tells the datum -/
inductive Dn (K : KW) (F : Hp) : V → Dt → Prop
  | non : Dn K F .non .none
  | bl (b : Bool) : Dn K F (.bl b) (.bool b)
  | int (i : Int) : Dn K F (.int i) (.int i)
  | str (x : Str) (h : x.length ≤ sizeLine) : Dn K F (.str x) (.str x)
  | lst {a : Addr} {xs : List V} {ds : List Dt} : F a = some (.lst xs) → DnAll K F xs ds → Dn K F (.ref a) (.list ds)
  | tup {a : Addr} {xs : List V} {ds : List Dt} : TupN K F a xs → DnAll K F xs ds → Dn K F (.ref a) (.tuple ds)
  | dct {a : Addr} {kvs : List (Key × V)} {ds : List (Dt × Dt)} : Rd F a (.dK kvs) → DnKs K F kvs ds → Dn K F (.ref a) (.dict ds)
inductive DnAll (K : KW) (F : Hp) : List V → List Dt → Prop
  | nil : DnAll K F [] []
  | cons {v : V} {vs : List V} {d : Dt} {ds : List Dt} : Dn K F v d → DnAll K F vs ds → DnAll K F (v :: vs) (d :: ds)
inductive DnKs (K : KW) (F : Hp) : List (Key × V) → List (Dt × Dt) → Prop
  | nil : DnKs K F [] []
  | cons {k : Key} {v : V} {kvs : List (Key × V)} {d : Dt} {ds : List (Dt × Dt)} : Dn K F v d → DnKs K F kvs ds → DnKs K F ((k, v) :: kvs) ((kD k, d) :: ds)
end
theorem Same.sqL {K : PySem.W.Frag} {a : Addr} {H H' : Hp} {xs : List V} (k : Same H H') (h : SqL K H a xs) : SqL K H' a xs := by
  rcases h with h | h
  · rcases h with h | ⟨o, h⟩
    · exact .inl (.inl (k _ _ h))
    · exact .inl (.inr ⟨o, k _ _ h⟩)
  · exact .inr h
theorem Same.sqT' {K : PySem.W.Frag} {a : Addr} {H H' : Hp} {xs : List V} (k : Same H H') (h : SqT K H a xs) : SqT K H' a xs := by
  rcases h with h | h
  · rcases h with h | ⟨o, h⟩
    · exact .inl (.inl (k _ _ h))
    · exact .inl (.inr ⟨o, k _ _ h⟩)
  · exact .inr h
theorem Same.rd {a : Addr} {H H' : Hp} {u : HO} (k : Same H H') (h : Rd H a u) : Rd H' a u := by
  rcases h with h | ⟨o, h⟩
  · exact .inl (k _ _ h)
  · exact .inr ⟨o, k _ _ h⟩
section
variable {K : KW} {F F' : Hp}
mutual
theorem Dn.same (s : Same F F') : ∀ {v : V} {d : Dt}, Dn K F v d → Dn K F' v d
  | _, _, .non => .non
  | _, _, .bl b => .bl b
  | _, _, .int i => .int i
  | _, _, .str x h => .str x h
  | _, _, .lst h hs => .lst (s _ _ h) (DnAll.same s hs)
  | _, _, .tup h hs => .tup (h.same s) (DnAll.same s hs)
  | _, _, .dct h hs => .dct (Same.rd s h) (DnKs.same s hs)
theorem DnAll.same (s : Same F F') : ∀ {vs : List V} {ds : List Dt}, DnAll K F vs ds → DnAll K F' vs ds
  | _, _, .nil => .nil
  | _, _, .cons h hs => .cons (Dn.same s h) (DnAll.same s hs)
theorem DnKs.same (s : Same F F') : ∀ {vs : List (Key × V)} {ds : List (Dt × Dt)}, DnKs K F vs ds → DnKs K F' vs ds
  | _, _, .nil => .nil
  | _, _, .cons h hs => .cons (Dn.same s h) (DnKs.same s hs)
end
theorem DnAll.length : ∀ {vs : List V} {ds : List Dt}, DnAll K F vs ds → vs.length = ds.length
  | _, _, .nil => rfl
  | _, _, .cons _ hs => congrArg (· + 1) hs.length
theorem DnAll.app : ∀ {vs us : List V} {ds es : List Dt}, DnAll K F vs ds → DnAll K F us es → DnAll K F (vs ++ us) (ds ++ es)
  | _, _, _, _, .nil, h => h
  | _, _, _, _, .cons h hs, h' => .cons h (hs.app h')
theorem DnAll.get : ∀ {vs : List V} {ds : List Dt} {i : Nat} {d : Dt}, DnAll K F vs ds → ds[i]? = some d → ∃ v, vs[i]? = some v ∧ Dn K F v d
  | _, _, _, _, .nil, e => by simp at e
  | _, _, 0, _, .cons h _, e => by simp at e; subst e; exact ⟨_, rfl, h⟩
  | _, _, i + 1, d, .cons _ hs, e => by
    obtain ⟨v, h1, h2⟩ := DnAll.get (i := i) (d := d) hs (by simpa using e)
    exact ⟨v, by simpa using h1, h2⟩
theorem DnAll.getV : ∀ {vs : List V} {ds : List Dt} {i : Nat} {v : V}, DnAll K F vs ds → vs[i]? = some v → ∃ d, ds[i]? = some d ∧ Dn K F v d
  | _, _, _, _, .nil, e => by simp at e
  | _, _, 0, _, .cons h _, e => by simp at e; subst e; exact ⟨_, rfl, h⟩
  | _, _, i + 1, v, .cons _ hs, e => by
    obtain ⟨d, h1, h2⟩ := DnAll.getV (i := i) (v := v) hs (by simpa using e)
    exact ⟨d, by simpa using h1, h2⟩
theorem DnAll.take : ∀ {vs : List V} {ds : List Dt} (n : Nat), DnAll K F vs ds → DnAll K F (vs.take n) (ds.take n)
  | _, _, 0, _ => .nil
  | _, _, _ + 1, .nil => .nil
  | _, _, n + 1, .cons h hs => .cons h (hs.take n)
theorem DnAll.drop : ∀ {vs : List V} {ds : List Dt} (n : Nat), DnAll K F vs ds → DnAll K F (vs.drop n) (ds.drop n)
  | _, _, 0, h => h
  | _, _, _ + 1, .nil => .nil
  | _, _, n + 1, .cons _ hs => hs.drop n
theorem DnAll.rev {vs : List V} {ds : List Dt} (h : DnAll K F vs ds) : DnAll K F vs.reverse ds.reverse := by
  induction vs generalizing ds with
  | nil => cases h; exact .nil
  | cons v vs ih =>
    cases h with
    | cons h hs =>
      rw [List.reverse_cons, List.reverse_cons]
      exact (ih hs).app (.cons h .nil)
theorem DnAll.set : ∀ {vs : List V} {ds : List Dt} {v : V} {d : Dt} (i : Nat), DnAll K F vs ds → Dn K F v d → DnAll K F (vs.set i v) (ds.set i d)
  | _, _, _, _, _, .nil, _ => .nil
  | _, _, _, _, 0, .cons _ hs, h => .cons h hs
  | _, _, _, _, i + 1, .cons g hs, h => .cons g (hs.set i h)
theorem DnAll.strs : ∀ {vs : List V} {ss : List Str}, DnAll K F vs (ss.map .str) → vs = ss.map .str ∧ ∀ s ∈ ss, s.length ≤ sizeLine
  | _, [], .nil => ⟨rfl, fun _ h => nomatch h⟩
  | _, s :: ss, .cons (.str _ h) hs => by
    obtain ⟨e, g⟩ := hs.strs
    refine ⟨by rw [e]; rfl, fun z hz => ?_⟩
    rcases List.mem_cons.mp hz with rfl | hz
    · exact h
    · exact g z hz
theorem DnAll.ofStrs : ∀ {ss : List Str}, (∀ s ∈ ss, s.length ≤ sizeLine) → DnAll K F (ss.map .str) (ss.map .str)
  | [], _ => .nil
  | s :: ss, h => .cons (.str s (h s List.mem_cons_self)) (DnAll.ofStrs fun z hz => h z (List.mem_cons_of_mem _ hz))
end
/-- things that are no data: a set of texts; an instance of an own class with data in its fields; a dict with None and truths among its keys; such a dict of lists; a dict whose keys are tuples; a thing that is only handed on; a def of the module; a thing that can be called, and is what was handed over -/
inductive Xt where
  | st (xs : List Str)
  | ob (c : Str) (fs : List (Str × Dt))
  | dn (kvs : List (Leaf × Dt))
  | dnl (kvs : List (Leaf × List Dt))
  | dt (kvs : List (List Key × Dt))
  | op (u : V)
  | fn (nm : Str)
  | fns (nms : List Str)
  | lam
/-- what a slot owns: a list of data, a list of such lists, a dict of data, a dict of lists of data -/
inductive Ow where
  | l (xs : List Dt)
  | ll (xs : List (List Dt))
  | dc (kvs : List (Key × Dt))
  | dl (kvs : List (Key × List Dt))
  | x (t : Xt)
structure Xc where
  cls : Str
  fs : List (Str × Dt)
/-- xr: a caught exception; d: a datum; own: owned by this cell; io: an argument that the caller owns; rf: the thing owned by the slot i, or one in it -/
inductive A where
  | d (x : Dt)
  | own (o : Ow)
  | io (o : Ow)
  | rf (i : Nat) (p : Option Key)
  | sc (ns : List Int)
  | q (xs : List Dt)
  | lk (kvs : List (Dt × Dt))
  | xr (x : Xc)
abbrev Env := List (Option A)
def Ow.dt : Ow → Option Dt
  | .l xs => some (.list xs)
  | .ll xs => some (.list (xs.map .list))
  | .dc kvs => some (.dict (kvs.map fun q => (kD q.1, q.2)))
  | .dl kvs => some (.dict (kvs.map fun q => (kD q.1, .list q.2)))
  | .x _ => none
def setS (xs : List Str) : Key → Bool := fun k => xs.any fun x => decide (k = .inr x)
/-- a dict whose keys are None, truths, ints and texts -/
def DicN (P : Program) (w : World) (a : Addr) (us : List (Leaf × V)) : HO := .ext fun h => us.length ≤ sizeLine ∧ (a == sysModules) = false ∧ ∃ vs, KV us vs ∧ h.DictOf (leafKind P w) a vs
/-- a key that is a tuple, where it stands, and what stands at it -/
abbrev TK := List Key × Addr × V
/-- a dict whose keys are tuples of ints and texts -/
def DicTX (P : Program) (w : World) (a : Addr) (us : List TK) : HO := .ext fun h => us.length ≤ sizeLine ∧ (a == sysModules) = false ∧ ∃ xs : List (List Key × Addr × Value),
  Paired (fun (p : TK) (q : List Key × Addr × Value) => p.1 = q.1 ∧ p.2.1 = q.2.1 ∧ RelV p.2.2 q.2.2) us xs ∧
  ∃ o es ep, h.get? a = some o ∧ o.ExactDict ∧ o.data = .dict es ep ∧ es.toList = xs.map (entryOfKey (tupleKind (mixKind P w))) ∧ (xs.map (·.1)).Nodup
def OwL (K : KW) (F H : Hp) (own : Addr → Prop) (v : V) (xs : List Dt) : Prop := ∃ a vs, v = .ref a ∧ own a ∧ H a = some (.lst vs) ∧ DnAll K F vs xs
def XtO (K : KW) (F H : Hp) (own : Addr → Prop) (v : V) : Xt → Prop
  | .st xs => ∃ a, v = .ref a ∧ own a ∧ H a = some (SetK K.P K.w a (setS xs) xs.length)
  | .ob c fs => ∃ a dx us, v = .ref a ∧ own a ∧ own dx ∧ H a = some (.ins (He.ga K c) dx us) ∧ H dx = some (.own a) ∧ Paired (fun (p : Str × V) (q : Str × Dt) => p.1 = q.1 ∧ Dn K F p.2 q.2) us fs
  | .dn kvs => ∃ a us, v = .ref a ∧ own a ∧ H a = some (DicN K.P K.w a us) ∧ Paired (fun (p : Leaf × V) (q : Leaf × Dt) => p.1 = q.1 ∧ Dn K F p.2 q.2) us kvs
  | .dnl kvs => ∃ a us, v = .ref a ∧ own a ∧ H a = some (DicN K.P K.w a us) ∧ ((us.map (·.2)).Nodup ∧ (us.map (·.1)).Nodup) ∧ V.ref a ∉ us.map (·.2) ∧ Paired (fun (p : Leaf × V) (q : Leaf × List Dt) => p.1 = q.1 ∧ OwL K F H own p.2 q.2) us kvs
  | .op u => v = u
  | .fn nm => v = .ref (He.ga K nm)
  | .fns nms => ∃ a, v = .ref a ∧ F a = some (.lst (nms.map fun nm => V.ref (He.ga K nm)))
  | .lam => True
  | .dt kvs => ∃ a us, v = .ref a ∧ own a ∧ H a = some (DicTX K.P K.w a us) ∧ Paired (fun (p : TK) (q : List Key × Dt) => p.1 = q.1 ∧ TupN K F p.2.1 (p.1.map kV) ∧ Dn K F p.2.2 q.2) us kvs
def OwO (K : KW) (F H : Hp) (own : Addr → Prop) (v : V) : Ow → Prop
  | .l xs => OwL K F H own v xs
  | .ll xss => ∃ a vs, v = .ref a ∧ own a ∧ H a = some (.lst vs) ∧ vs.Nodup ∧ V.ref a ∉ vs ∧ Paired (OwL K F H own) vs xss
  | .dc kvs => ∃ a us, v = .ref a ∧ own a ∧ H a = some (.dK us) ∧ Paired (fun (p : Key × V) (q : Key × Dt) => p.1 = q.1 ∧ Dn K F p.2 q.2) us kvs
  | .dl kvs => ∃ a us, v = .ref a ∧ own a ∧ H a = some (.dK us) ∧ ((us.map (·.2)).Nodup ∧ (us.map (·.1)).Nodup) ∧ V.ref a ∉ us.map (·.2) ∧ Paired (fun (p : Key × V) (q : Key × List Dt) => p.1 = q.1 ∧ OwL K F H own p.2 q.2) us kvs
  | .x t => XtO K F H own v t
section
variable {K : KW} {F F' H H' : Hp} {own own' : Addr → Prop}
theorem OwL.mono (s : Same F F') (ho : ∀ a, own a → own' a) (hh : ∀ a, own a → H' a = H a) {v : V} {xs : List Dt} (h : OwL K F H own v xs) : OwL K F' H' own' v xs := by
  obtain ⟨a, vs, e, o, q, d⟩ := h
  exact ⟨a, vs, e, ho a o, by rw [hh a o]; exact q, d.same s⟩
theorem XtO.mono (s : Same F F') (ho : ∀ a, own a → own' a) (hh : ∀ a, own a → H' a = H a) {v : V} {o : Xt} (h : XtO K F H own v o) : XtO K F' H' own' v o := by
  cases o with
  | st xs =>
    obtain ⟨a, e, o, q⟩ := h
    exact ⟨a, e, ho a o, by rw [hh a o]; exact q⟩
  | ob c fs =>
    obtain ⟨a, dx, us, e, o1, o2, q1, q2, p⟩ := h
    exact ⟨a, dx, us, e, ho a o1, ho dx o2, by rw [hh a o1]; exact q1, by rw [hh dx o2]; exact q2, L2.Paired.mapP p fun _ _ z => ⟨z.1, z.2.same s⟩⟩
  | op u => exact h
  | fn u => exact h
  | fns nms =>
    obtain ⟨a, e, q⟩ := h
    exact ⟨a, e, s _ _ q⟩
  | lam => exact h
  | dn kvs =>
    obtain ⟨a, us, e, o1, q1, p⟩ := h
    exact ⟨a, us, e, ho a o1, by rw [hh a o1]; exact q1, L2.Paired.mapP p fun _ _ z => ⟨z.1, z.2.same s⟩⟩
  | dnl kvs =>
    obtain ⟨a, us, e, o1, q1, n, m, p⟩ := h
    exact ⟨a, us, e, ho a o1, by rw [hh a o1]; exact q1, n, m, L2.Paired.mapP p fun _ _ z => ⟨z.1, z.2.mono s ho hh⟩⟩
  | dt kvs =>
    obtain ⟨a, us, e, o1, q1, p⟩ := h
    exact ⟨a, us, e, ho a o1, by rw [hh a o1]; exact q1, L2.Paired.mapP p fun _ _ z => ⟨z.1, z.2.1.same s, z.2.2.same s⟩⟩
theorem OwO.mono (s : Same F F') (ho : ∀ a, own a → own' a) (hh : ∀ a, own a → H' a = H a) {v : V} {o : Ow} (h : OwO K F H own v o) : OwO K F' H' own' v o := by
  cases o with
  | l xs => exact OwL.mono s ho hh h
  | ll xss =>
    obtain ⟨a, vs, e, q, r, n, m, p⟩ := h
    exact ⟨a, vs, e, ho a q, by rw [hh a q]; exact r, n, m, L2.Paired.mapP p fun _ _ z => z.mono s ho hh⟩
  | dc kvs =>
    obtain ⟨a, us, e, q, r, p⟩ := h
    exact ⟨a, us, e, ho a q, by rw [hh a q]; exact r, L2.Paired.mapP p fun _ _ z => ⟨z.1, z.2.same s⟩⟩
  | dl kvs =>
    obtain ⟨a, us, e, q, r, n, m, p⟩ := h
    exact ⟨a, us, e, ho a q, by rw [hh a q]; exact r, n, m, L2.Paired.mapP p fun _ _ z => ⟨z.1, z.2.mono s ho hh⟩⟩
  | x t => exact XtO.mono s ho hh h
theorem paired_all : ∀ {vs : List V} {xss : List (List Dt)}, Paired (OwL K F H own) vs xss → (∀ v xs, OwL K F H own v xs → Dn K F' v (.list xs)) → DnAll K F' vs (xss.map .list)
  | _, _, .nil, _ => .nil
  | _, _, .cons h hs, f => .cons (f _ _ h) (paired_all hs f)
theorem paired_ks : ∀ {vs : List (Key × V)} {xss : List (Key × Dt)}, Paired (fun (p : Key × V) (q : Key × Dt) => p.1 = q.1 ∧ Dn K F p.2 q.2) vs xss → DnKs K F vs (xss.map fun q => (kD q.1, q.2))
  | _, _, .nil => .nil
  | (k, v) :: vs, (k', d) :: ds, .cons h hs => by
    obtain ⟨e, h⟩ := h
    cases e
    exact .cons h (paired_ks hs)
theorem paired_kl : ∀ {vs : List (Key × V)} {xss : List (Key × List Dt)}, Paired (fun (p : Key × V) (q : Key × List Dt) => p.1 = q.1 ∧ OwL K F H own p.2 q.2) vs xss → (∀ v xs, OwL K F H own v xs → Dn K F' v (.list xs)) → DnKs K F' vs (xss.map fun q => (kD q.1, .list q.2))
  | _, _, .nil, _ => .nil
  | (k, v) :: vs, (k', d) :: ds, .cons h hs, f => by
    obtain ⟨e, h⟩ := h
    cases e
    exact .cons (f _ _ h) (paired_kl hs f)
/-- what is owned, read as a datum of any heap that has it -/
theorem OwO.dn (s : Same F F') (hh : ∀ a, own a → F' a = H a) {v : V} {o : Ow} (h : OwO K F H own v o) {d : Dt} (hd : o.dt = some d) : Dn K F' v d := by
  have f : ∀ v xs, OwL K F H own v xs → Dn K F' v (.list xs) := fun v xs h => by
    obtain ⟨a, vs, rfl, o, q, d⟩ := h
    exact .lst ((hh a o).trans q) (d.same s)
  cases o with
  | x t => cases hd
  | l xs => cases hd; exact f _ _ h
  | ll xss =>
    cases hd
    obtain ⟨a, vs, rfl, q, r, n, m, p⟩ := h
    exact .lst ((hh a q).trans r) (paired_all p f)
  | dc kvs =>
    cases hd
    obtain ⟨a, us, rfl, q, r, p⟩ := h
    exact .dct (.inl ((hh a q).trans r)) (paired_ks (L2.Paired.mapP p fun _ _ z => ⟨z.1, z.2.same s⟩))
  | dl kvs =>
    cases hd
    obtain ⟨a, us, rfl, q, r, n, m, p⟩ := h
    exact .dct (.inl ((hh a q).trans r)) (paired_kl p f)
end
theorem same_newV {H : Hp} {p : Addr} {o : HO} (h : H p = none) : Same H (upd H p o) := fun b x e => by
  rw [upd_ne (ne_of_none e h)]
  exact e
/-- where a def began -/
structure Bs where
  H : Hp
  F : Hp
  S : Addr → Option Nat
  vs : List V
  io : Nat → Bool
  xc : Addr × Value × Option Addr
/-- the thing at a path of a slot's thing -/
def atP (H : Hp) (O : Addr → Option Nat) (i : Nat) (w : V) (v : V) : Option Key → Prop
  | none => v = w
  | some k => ∃ a, w = .ref a ∧ O a = some i ∧ ((∃ vs n, k = .inl n ∧ 0 ≤ n ∧ H a = some (.lst vs) ∧ vs[n.toNat]? = some v) ∨ ∃ us, H a = some (.dK us) ∧ valV us k = some v)
def CellO (K : KW) (B : Bs) (F H : Hp) (O : Addr → Option Nat) (σ : List (Option V)) (j : Nat) (v : V) : A → Prop
  | .d x => Dn K F v x
  | .own o => OwO K F H (fun a => O a = some j ∧ B.H a = none) v o
  | .io o => OwO K F H (fun a => O a = some j) v o ∧ B.vs[j]? = some v
  | .rf i p => ∃ w, σ[i]? = some (some w) ∧ atP H O i w v p
  | .sc ns => ∃ a, v = .ref a ∧ SqL K F a (ns.map V.int)
  | .q xs => ∃ a vs, v = .ref a ∧ SqT K F a vs ∧ DnAll K F vs xs
  | .lk kvs => ∃ (a : Addr) (o : Obj) (us : List (Key × V)), v = .ref a ∧ B.F a = some (.frz o (.dK us)) ∧ DnKs K B.F us kvs
  | .xr x => v = .ref B.xc.1 ∧ B.xc.2.1 = .ref (He.ga K x.cls) ∧ ((x.fs = [] ∧ B.xc.2.2 = none) ∨ ∃ dx us, B.xc.2.2 = some dx ∧ F dx = some (.xd ((x.fs.map (·.1)).zip us)) ∧ DnAll K F us (x.fs.map (·.2)))
def TmO (K : KW) (B : Bs) (F H : Hp) (O : Addr → Option Nat) (σ : List (Option V)) : List V → List A → Prop
  | [], [] => True
  | v :: ts, a :: te => CellO K B F H O σ (σ.length + ts.length) v a ∧ TmO K B F H O σ ts te
  | _, _ => False
/-- a thing that may be changed -/
def MutO (o : Option HO) : Prop := o ≠ none ∧ (∀ xs, o ≠ some (.tup xs)) ∧ (∀ b u, o ≠ some (.frz b u)) ∧ (∀ fs, o ≠ some (.xd fs)) ∧ (∀ ps, o ≠ some (.tbl ps)) ∧ ∀ c q, o ≠ some (LamX.CodeO c q)
theorem mutO_lst (xs : List V) : MutO (some (.lst xs)) := ⟨nofun, fun _ z => (nomatch z), (fun _ _ z => nomatch z), (fun _ z => nomatch z), (fun _ z => nomatch z), fun _ _ z => by unfold LamX.CodeO at z; cases z⟩
theorem mutO_dK (xs : List (Key × V)) : MutO (some (.dK xs)) := ⟨nofun, fun _ z => (nomatch z), (fun _ _ z => nomatch z), (fun _ z => nomatch z), (fun _ z => nomatch z), fun _ _ z => by unfold LamX.CodeO at z; cases z⟩
/-- each table tells code objects of its name alone -/
def TabH (K : KW) (H : Hp) : Prop := ∀ p ∈ K.T, LamX.TabS H p.1 p.2
/-- the tables when a def begins -/
def BT (K : KW) (B : Bs) : Prop := ∀ p ∈ K.T, B.F p.1 = none ∧ B.H p.1 ≠ none ∧ B.S p.1 = none
theorem TabH.mono {K : KW} {H H' : Hp} (t : TabH K H) (k : ∀ b o, ((∃ ps, o = .tbl ps) ∨ ∃ c q, o = LamX.CodeO c q) → H b = some o → H' b = some o) : TabH K H' := fun p hp => by
  obtain ⟨ps, h1, h2, h3⟩ := t p hp
  refine ⟨ps, k _ _ (.inl ⟨_, rfl⟩) h1, h2, fun pos cv z => ?_⟩
  obtain ⟨c, e1, e2⟩ := h3 pos cv z
  exact ⟨c, e1, k _ _ (.inr ⟨_, _, rfl⟩) e2⟩
structure RelF (K : KW) (B : Bs) (F : Hp) (O : Addr → Option Nat) (σ : List (Option V)) (env : Env) (ts : List V) (te : List A) (H : Hp) : Prop where
  ln : σ.length = env.length
  sl : ∀ i a, env[i]? = some (some a) → ∃ v, σ[i]? = some (some v) ∧ CellO K B F H O σ i v a
  tm : TmO K B F H O σ ts te
  sf : Same F H
  of : ∀ a j, O a = some j → F a = none ∧ MutO (H a) ∧ j < σ.length + ts.length ∧ (B.H a = none ∨ (B.S a = some j ∧ B.io j = true))
  b1 : Same B.F F
  b2 : ∀ b o, B.S b = none → (∀ ps, o ≠ .tbl ps) → B.H b = some o → H b = some o
  b3 : ∀ b, B.F b = none → F b ≠ none → B.H b = none ∨ B.S b ≠ none
  b5 : ∀ b, B.H b ≠ none → H b ≠ none
  bi : ∀ i, B.io i = true → ∃ o, env[i]? = some (some (.io o))
  tb : BT K B ∧ TabH K H
def Rel (K : KW) (B : Bs) (σ : List (Option V)) (env : Env) (ts : List V) (te : List A) (H : Hp) : Prop := ∃ F O, RelF K B F O σ env ts te H
section
variable {K : KW} {B : Bs} {F F' H H' : Hp} {O O' : Addr → Option Nat} {σ σ' : List (Option V)} {env : Env} {ts : List V} {te : List A}
theorem atP.mono {i : Nat} {w v : V} {p : Option Key} (h : atP H O i w v p) (k : p ≠ none → ∀ b, O b = some i → O' b = some i ∧ H' b = H b) : atP H' O' i w v p := by
  cases p with
  | none => exact h
  | some q =>
    obtain ⟨a, e, o, h⟩ := h
    obtain ⟨k1, k2⟩ := k nofun a o
    refine ⟨a, e, k1, ?_⟩
    rw [k2]
    exact h
/-- a cell stays what it was -/
theorem CellO.mono {j j' : Nat} {v : V} {a : A} (h : CellO K B F H O σ j v a) (s : Same F F') (hj : ∀ b, O b = some j → O' b = some j' ∧ H' b = H b)
    (hi : ∀ o, a = .io o → j' = j) (hr : ∀ i p w, a = .rf i p → σ[i]? = some (some w) → σ'[i]? = some (some w)) (hp : ∀ i k, a = .rf i (some k) → ∀ b, O b = some i → O' b = some i ∧ H' b = H b) : CellO K B F' H' O' σ' j' v a := by
  cases a with
  | d x => exact Dn.same s h
  | own o => exact OwO.mono (own := fun a => O a = some j ∧ B.H a = none) s (fun a z => ⟨(hj a z.1).1, z.2⟩) (fun a z => (hj a z.1).2) h
  | io o =>
    refine ⟨OwO.mono (own := fun a => O a = some j) s (fun a z => (hj a z).1) (fun a z => (hj a z).2) h.1, ?_⟩
    rw [hi o rfl]
    exact h.2
  | rf i p =>
    obtain ⟨w, e, h⟩ := h
    refine ⟨w, hr i p w rfl e, h.mono fun z b q => ?_⟩
    cases p with
    | none => exact absurd rfl z
    | some k => exact hp i k rfl b q
  | sc ns =>
    obtain ⟨a, e, h⟩ := h
    exact ⟨a, e, Same.sqL s h⟩
  | q xs =>
    obtain ⟨a, vs, e, h, d⟩ := h
    exact ⟨a, vs, e, Same.sqT' s h, d.same s⟩
  | lk kvs =>
    exact h
  | xr x =>
    obtain ⟨e1, e2, h⟩ := h
    refine ⟨e1, e2, h.imp id ?_⟩
    rintro ⟨dx, us, e3, h1, h2⟩
    exact ⟨dx, us, e3, s _ _ h1, h2.same s⟩
theorem TmO.len : ∀ {ts : List V} {te : List A}, TmO K B F H O σ ts te → ts.length = te.length
  | [], [], _ => rfl
  | _ :: _, _ :: _, h => congrArg (· + 1) (TmO.len h.2)
theorem TmO.mono (s : Same F F') (hl : σ'.length = σ.length) : ∀ {ts : List V} {te : List A}, TmO K B F H O σ ts te → (∀ j, σ.length ≤ j → j < σ.length + ts.length → ∀ b, O b = some j → O' b = some j ∧ H' b = H b) →
    (∀ i p w, A.rf i p ∈ te → σ[i]? = some (some w) → σ'[i]? = some (some w)) → (∀ i k, A.rf i (some k) ∈ te → ∀ b, O b = some i → O' b = some i ∧ H' b = H b) → TmO K B F' H' O' σ' ts te
  | [], [], _, _, _, _ => trivial
  | v :: ts, a :: te, h, hj, hr, hp => by
    refine ⟨?_, h.2.mono s hl (fun j h1 h2 => hj j h1 (by rw [List.length_cons]; omega)) (fun i p w z => hr i p w (List.mem_cons_of_mem _ z)) (fun i k z => hp i k (List.mem_cons_of_mem _ z))⟩
    rw [hl]
    exact CellO.mono h.1 s (hj _ (Nat.le_add_right _ _) (by rw [List.length_cons]; omega)) (fun _ _ => rfl) (fun i p w e => hr i p w (by rw [e]; exact List.mem_cons_self)) (fun i k e => hp i k (by rw [e]; exact List.mem_cons_self))
end

def isRf (i : Nat) : A → Bool
  | .rf j _ => j == i
  | _ => false
def isNest (i : Nat) : A → Bool
  | .rf j (some _) => j == i
  | _ => false
def isIo : A → Bool
  | .io _ => true
  | _ => false
def inE (f : A → Bool) (env : Env) : Bool := env.any fun c => match c with
  | some a => f a
  | none => false
def anyC (f : A → Bool) (env : Env) (te : List A) : Bool := inE f env || te.any f
theorem anyC_env {f : A → Bool} {env : Env} {te : List A} (h : anyC f env te = false) {i : Nat} {a : A} (e : env[i]? = some (some a)) : f a = false := by
  unfold anyC at h
  rw [Bool.or_eq_false_iff] at h
  have := List.any_eq_false.mp h.1 (some a) (List.mem_of_getElem? e)
  simpa using this
theorem anyC_te {f : A → Bool} {env : Env} {te : List A} (h : anyC f env te = false) {a : A} (e : a ∈ te) : f a = false := by
  unfold anyC at h
  rw [Bool.or_eq_false_iff] at h
  have := List.any_eq_false.mp h.2 a e
  simpa using this
section
variable {K : KW} {B : Bs} {F F' H H' : Hp} {O O' : Addr → Option Nat} {σ σ' : List (Option V)} {env : Env} {ts : List V} {te : List A}
theorem RelF.fresh (R : RelF K B F O σ env ts te H) {p : Addr} (h : H p = none) : F p = none ∧ B.H p = none ∧ O p = none := by
  refine ⟨Same.free R.sf h, Classical.byContradiction fun z => R.b5 p z h, ?_⟩
  cases e : O p with
  | none => rfl
  | some j => exact absurd h (R.of p j e).2.1.1
/-- a table is owned by none, nor is a code object -/
theorem RelF.noT (R : RelF K B F O σ env ts te H) {b : Addr} {o : HO} (t : (∃ ps, o = .tbl ps) ∨ ∃ c q, o = LamX.CodeO c q) (h : H b = some o) : O b = none := by
  cases e : O b with
  | none => rfl
  | some j =>
    have m := (R.of b j e).2.1.2.2.2.2
    rcases t with ⟨ps, rfl⟩ | ⟨c, q, rfl⟩
    · exact absurd h (m.1 ps)
    · exact absurd h (m.2 c q)
theorem RelF.noF (R : RelF K B F O σ env ts te H) {p : Addr × Str} (h : p ∈ K.T) : F p.1 = none := by
  obtain ⟨t1, t2, t3⟩ := R.tb.1 p h
  refine Classical.byContradiction fun z => ?_
  rcases R.b3 p.1 t1 z with y | y
  · exact t2 y
  · exact y t3
theorem RelF.tabO (R : RelF K B F O σ env ts te H) {p : Addr × Str} (h : p ∈ K.T) : O p.1 = none ∧ H p.1 ≠ none := by
  obtain ⟨ps, e, _⟩ := R.tb.2 p h
  exact ⟨R.noT (.inl ⟨ps, rfl⟩) e, by rw [e]; exact nofun⟩
/-- the heaps grow; what is owned stays; tables may be written -/
theorem RelF.ext0 (R : RelF K B F O σ env ts te H) (s : Same F F') (s2 : Same F' H') (k : ∀ b j, O b = some j → H' b = H b ∧ F' b = none) (k2 : ∀ b o, O b = none → (∀ ps, o ≠ .tbl ps) → H b = some o → H' b = some o)
    (k3 : ∀ b, F b = none → F' b ≠ none → B.H b = none) (k4 : ∀ b, H b ≠ none → H' b ≠ none) (tb : TabH K H') : RelF K B F' O σ env ts te H' where
  ln := R.ln
  sl := fun i a e => by
    obtain ⟨v, e1, h⟩ := R.sl i a e
    exact ⟨v, e1, h.mono s (fun b z => ⟨z, (k b i z).1⟩) (fun _ _ => rfl) (fun _ _ _ _ z => z) (fun i' _ _ b z => ⟨z, (k b i' z).1⟩)⟩
  tm := R.tm.mono s rfl (fun j _ _ b z => ⟨z, (k b j z).1⟩) (fun _ _ _ _ z => z) (fun i _ _ b z => ⟨z, (k b i z).1⟩)
  sf := s2
  of := fun a j z => by
    obtain ⟨h1, h2, h3, h4⟩ := R.of a j z
    exact ⟨(k a j z).2, by rw [(k a j z).1]; exact h2, h3, h4⟩
  b1 := R.b1.trans s
  b2 := fun b o hs ht e => by
    have h := R.b2 b o hs ht e
    cases z : O b with
    | none => exact k2 b o z ht h
    | some j => rw [(k b j z).1]; exact h
  b3 := fun b h1 h2 => by
    cases z : F b with
    | none => exact .inl (k3 b z h2)
    | some o => exact R.b3 b h1 (by rw [z]; exact nofun)
  b5 := fun b h1 => k4 b (R.b5 b h1)
  bi := R.bi
  tb := ⟨R.tb.1, tb⟩
/-- the heaps grow; what is owned stays -/
theorem RelF.ext (R : RelF K B F O σ env ts te H) (s : Same F F') (s2 : Same F' H') (k : ∀ b j, O b = some j → H' b = H b ∧ F' b = none) (k2 : ∀ b o, O b = none → H b = some o → H' b = some o)
    (k3 : ∀ b, F b = none → F' b ≠ none → B.H b = none) : RelF K B F' O σ env ts te H' := by
  refine R.ext0 s s2 k (fun b o z _ e => k2 b o z e) k3 (fun b h => ?_) (R.tb.2.mono fun b o t z => k2 b _ (R.noT t z) z)
  cases z : O b with
  | some j => rw [(k b j z).1]; exact h
  | none =>
    cases y : H b with
    | none => exact absurd y h
    | some o => rw [k2 b o z y]; exact nofun
/-- a new object that is never changed -/
theorem RelF.new (R : RelF K B F O σ env ts te H) {p : Addr} (h : H p = none) (o : HO) : RelF K B (upd F p o) O σ env ts te (upd H p o) := by
  obtain ⟨f1, f2, f3⟩ := R.fresh h
  have np : ∀ b j, O b = some j → b ≠ p := fun b j z e => by rw [e, f3] at z; cases z
  refine R.ext (same_newV f1) ?_ (fun b j z => ⟨upd_ne (np b j z), by rw [upd_ne (np b j z)]; exact (R.of b j z).1⟩) (fun b u _ e => ?_) (fun b h1 h2 => ?_)
  · intro b u e
    by_cases hb : b = p
    · subst hb
      rw [upd_same] at e ⊢
      exact e
    · rw [upd_ne hb] at e ⊢
      exact R.sf b u e
  · rw [upd_ne (ne_of_none e h)]
    exact e
  · by_cases hb : b = p
    · rw [hb]; exact f2
    · rw [upd_ne hb] at h2
      exact absurd h1 h2
theorem RelF.push (R : RelF K B F O σ env ts te H) {v : V} {a : A} (h : CellO K B F H O σ (σ.length + ts.length) v a) : RelF K B F O σ env (v :: ts) (a :: te) H :=
  { R with
    tm := ⟨h, R.tm⟩
    of := fun b j z => by
      obtain ⟨h1, h2, h3, h4⟩ := R.of b j z
      exact ⟨h1, h2, by rw [List.length_cons]; omega, h4⟩ }
/-- a new list of one's own -/
theorem RelF.newL (R : RelF K B F O σ env ts te H) {p : Addr} (h : H p = none) {o : HO} (mo : MutO (some o)) {w : Ow} (hw : ∀ own : Addr → Prop, own p → OwO K F (upd H p o) own (.ref p) w) :
    RelF K B F (fun b => if b = p then some (σ.length + ts.length) else O b) σ env (.ref p :: ts) (.own w :: te) (upd H p o) := by
  obtain ⟨f1, f2, f3⟩ := R.fresh h
  have np : ∀ b j, O b = some j → b ≠ p := fun b j z e => by rw [e, f3] at z; cases z
  have k : ∀ j b, O b = some j → (fun b => if b = p then some (σ.length + ts.length) else O b) b = some j ∧ upd H p o b = H b := fun j b z => ⟨(if_neg (np b j z)).trans z, upd_ne (np b j z)⟩
  refine ⟨R.ln, fun i a e => ?_, ⟨hw _ ⟨if_pos rfl, f2⟩, R.tm.mono (Same.refl F) rfl (fun j _ _ b z => k j b z) (fun _ _ _ _ z => z) (fun i _ _ b z => k i b z)⟩, fun b u e => ?_, fun b j z => ?_, R.b1, fun b u hs ht e => ?_, R.b3, fun b e => ?_, R.bi, R.tb.1, R.tb.2.mono fun b o' t z => by rw [upd_ne (ne_of_none z h)]; exact z⟩
  · obtain ⟨v, e1, h⟩ := R.sl i a e
    exact ⟨v, e1, h.mono (Same.refl F) (k i) (fun _ _ => rfl) (fun _ _ _ _ z => z) (fun i' _ _ b z => k i' b z)⟩
  · rw [upd_ne (ne_of_none e f1)]
    exact R.sf b u e
  · by_cases hb : b = p
    · subst hb
      have z' : some (σ.length + ts.length) = some j := (if_pos rfl).symm.trans z
      refine ⟨f1, by rw [upd_same]; exact mo, ?_, .inl f2⟩
      rw [List.length_cons, ← Option.some.inj z']
      omega
    · have z' : O b = some j := (if_neg hb).symm.trans z
      obtain ⟨h1, h2, h3, h4⟩ := R.of b j z'
      exact ⟨h1, by rw [upd_ne hb]; exact h2, by rw [List.length_cons]; omega, h4⟩
  · rw [upd_ne (fun z => by rw [z, f2] at e; cases e)]
    exact R.b2 b u hs ht e
  · rw [upd_ne (fun z => by rw [z] at e; exact e f2)]
    exact R.b5 b e
/-- the top is dropped -/
theorem RelF.pop {v : V} {a : A} (R : RelF K B F O σ env (v :: ts) (a :: te) H) : RelF K B F (fun b => if O b = some (σ.length + ts.length) then none else O b) σ env ts te H := by
  have k : ∀ j, j ≠ σ.length + ts.length → ∀ b, O b = some j → (fun b => if O b = some (σ.length + ts.length) then none else O b) b = some j ∧ H b = H b := fun j nj b z => ⟨(if_neg (by rw [z]; exact fun y => nj (Option.some.inj y))).trans z, rfl⟩
  have cl : ∀ i a, env[i]? = some (some a) → i < σ.length := fun i a e => by rw [R.ln]; exact (List.getElem?_eq_some_iff.mp e).1
  have rf : ∀ i w, σ[i]? = some (some w) → i ≠ σ.length + ts.length := fun i w e => by have := (List.getElem?_eq_some_iff.mp e).1; omega
  have cm : ∀ {j : Nat} {v : V} {a : A}, CellO K B F H O σ j v a → j ≠ σ.length + ts.length → CellO K B F H (fun b => if O b = some (σ.length + ts.length) then none else O b) σ j v a := fun {j v a} h nj => by
    refine h.mono (Same.refl F) (k j nj) (fun _ _ => rfl) (fun _ _ _ _ z => z) (fun i kk e b z => ?_)
    rw [e] at h
    obtain ⟨w, hw, _⟩ := h
    exact k i (rf i w hw) b z
  have tm : ∀ {us : List V} {ue : List A}, us.length ≤ ts.length → TmO K B F H O σ us ue → TmO K B F H (fun b => if O b = some (σ.length + ts.length) then none else O b) σ us ue := fun {us} => by
    induction us with
    | nil => intro ue _ h; cases ue with
      | nil => trivial
      | cons => exact h.elim
    | cons u us ih =>
      intro ue hl h
      cases ue with
      | nil => exact h.elim
      | cons x ue =>
        rw [List.length_cons] at hl
        exact ⟨cm h.1 (by omega), ih (by omega) h.2⟩
  refine ⟨R.ln, fun i a e => ?_, tm (Nat.le_refl _) R.tm.2, R.sf, fun b j z => ?_, R.b1, R.b2, R.b3, R.b5, R.bi, R.tb⟩
  · obtain ⟨v, e1, h⟩ := R.sl i a e
    exact ⟨v, e1, cm h (by have := cl i a e; omega)⟩
  · by_cases hb : O b = some (σ.length + ts.length)
    · have z' : (none : Option Nat) = some j := (if_pos hb).symm.trans z
      cases z'
    · have z' : O b = some j := (if_neg hb).symm.trans z
      obtain ⟨h1, h2, h3, h4⟩ := R.of b j z'
      refine ⟨h1, h2, ?_, h4⟩
      rw [List.length_cons] at h3
      have : j ≠ σ.length + ts.length := fun y => hb (by rw [z', y])
      omega
/-- what the cell j owns is never changed any more -/
def frzF (F H : Hp) (O : Addr → Option Nat) (j : Nat) : Hp := fun b => if O b = some j then H b else F b
def frzO (O : Addr → Option Nat) (j : Nat) : Addr → Option Nat := fun b => if O b = some j then none else O b
theorem frzF_same (R : RelF K B F O σ env ts te H) (j : Nat) : Same F (frzF F H O j) := fun b o e => by
  show (if O b = some j then H b else F b) = some o
  by_cases hb : O b = some j
  · rw [(R.of b j hb).1] at e
    cases e
  · rw [if_neg hb]
    exact e
theorem frzF_sub (R : RelF K B F O σ env ts te H) (j : Nat) : Same (frzF F H O j) H := fun b o e => by
  by_cases hb : O b = some j
  · exact (if_pos hb).symm.trans e
  · exact R.sf b o ((if_neg hb).symm.trans e)
theorem frz_own (R : RelF K B F O σ env ts te H) {j : Nat} {v : V} {o : Ow} (h : CellO K B F H O σ j v (.own o)) {d : Dt} (hd : o.dt = some d) : Dn K (frzF F H O j) v d :=
  OwO.dn (own := fun a => O a = some j ∧ B.H a = none) (frzF_same R j) (fun a z => if_pos z.1) h hd
theorem RelF.frz (R : RelF K B F O σ env ts te H) {j : Nat} (hjo : B.io j = false) {env' : Env} {te' : List A} (hl : env'.length = env.length)
    (hs : ∀ i a, env'[i]? = some (some a) → (i = j ∧ ∃ v, σ[i]? = some (some v) ∧ ∃ x, a = .d x ∧ Dn K (frzF F H O j) v x) ∨ (i ≠ j ∧ env[i]? = some (some a) ∧ isNest j a = false))
    (hb : ∀ i, i ≠ j → env'[i]? = env[i]?) (tm : TmO K B (frzF F H O j) H (frzO O j) σ ts te') : RelF K B (frzF F H O j) (frzO O j) σ env' ts te' H := by
  have k : ∀ i, i ≠ j → ∀ b, O b = some i → frzO O j b = some i ∧ H b = H b := fun i ni b z => ⟨(if_neg (by rw [z]; exact fun y => ni (Option.some.inj y))).trans z, rfl⟩
  refine ⟨by rw [hl]; exact R.ln, fun i a e => ?_, tm, frzF_sub R j, fun b i z => ?_, R.b1.trans (frzF_same R j), R.b2, fun b h1 h2 => ?_, R.b5, fun i hi => ?_, R.tb⟩
  · rcases hs i a e with ⟨rfl, v, hv, x, rfl, hx⟩ | ⟨ni, e', hn⟩
    · exact ⟨v, hv, hx⟩
    · obtain ⟨v, e1, h⟩ := R.sl i a e'
      refine ⟨v, e1, h.mono (frzF_same R j) (k i ni) (fun _ _ => rfl) (fun _ _ _ _ z => z) (fun i' kk ec b z => k i' ?_ b z)⟩
      rintro rfl
      rw [ec] at hn
      simp [isNest] at hn
  · by_cases hb : O b = some j
    · have z' : (none : Option Nat) = some i := (if_pos hb).symm.trans z
      cases z'
    · have z' : O b = some i := (if_neg hb).symm.trans z
      obtain ⟨h1, h2, h3, h4⟩ := R.of b i z'
      exact ⟨(if_neg hb).trans h1, h2, h3, h4⟩
  · by_cases hb : O b = some j
    · rcases (R.of b j hb).2.2.2 with y | y
      · exact .inl y
      · rw [hjo] at y; cases y.2
    · exact R.b3 b h1 (by rw [← show frzF F H O j b = F b from if_neg hb]; exact h2)
  · rw [hb i (fun z => by rw [z, hjo] at hi; cases hi)]
    exact R.bi i hi
theorem TmO.frz (R : RelF K B F O σ env ts te H) {j : Nat} : ∀ {us : List V} {ue : List A}, TmO K B F H O σ us ue → (∀ a ∈ ue, isNest j a = false) → (j < σ.length ∨ σ.length + us.length ≤ j) → TmO K B (frzF F H O j) H (frzO O j) σ us ue
  | [], [], _, _, _ => trivial
  | v :: us, a :: ue, h, hn, hj => by
    rw [List.length_cons] at hj
    have k : ∀ i, i ≠ j → ∀ b, O b = some i → frzO O j b = some i ∧ H b = H b := fun i ni b z => ⟨(if_neg (by rw [z]; exact fun y => ni (Option.some.inj y))).trans z, rfl⟩
    refine ⟨h.1.mono (frzF_same R j) (k _ (by omega)) (fun _ _ => rfl) (fun _ _ _ _ z => z) (fun i' kk ec b z => k i' ?_ b z), TmO.frz R h.2 (fun a ha => hn a (List.mem_cons_of_mem _ ha)) (by omega)⟩
    rintro rfl
    have := hn a List.mem_cons_self
    rw [ec] at this
    simp [isNest] at this
/-- the slot i is frozen -/
theorem RelF.frzS (R : RelF K B F O σ env ts te H) {i : Nat} {o : Ow} {d : Dt} (hd : o.dt = some d) (he : env[i]? = some (some (.own o))) (nn : anyC (isRf i) env te = false) :
    RelF K B (frzF F H O i) (frzO O i) σ (env.set i (some (.d d))) ts te H := by
  have il : i < env.length := (List.getElem?_eq_some_iff.mp he).1
  have nest : ∀ a, isRf i a = false → isNest i a = false := fun a h => by
    cases a with
    | rf j p => cases p with
      | none => rfl
      | some k => exact h
    | _ => rfl
  have hjo : B.io i = false := by
    cases q : B.io i with
    | false => rfl
    | true =>
      obtain ⟨o', ho⟩ := R.bi i q
      rw [he] at ho
      cases ho
  refine R.frz hjo (by rw [List.length_set]) (fun j a e => ?_) (fun j nj => by rw [List.getElem?_set, if_neg (Ne.symm nj)]) (TmO.frz R R.tm (fun a ha => nest a (anyC_te nn ha)) (.inl (by rw [R.ln]; exact il)))
  rw [List.getElem?_set] at e
  by_cases ji : i = j
  · subst ji
    rw [if_pos rfl, if_pos il] at e
    cases e
    obtain ⟨v, hv, h⟩ := R.sl i _ he
    exact .inl ⟨rfl, v, hv, _, rfl, frz_own R h hd⟩
  · rw [if_neg ji] at e
    exact .inr ⟨Ne.symm ji, e, nest a (anyC_env nn e)⟩
/-- the top is frozen -/
theorem RelF.frzT {v : V} {o : Ow} {d : Dt} (hd : o.dt = some d) (R : RelF K B F O σ env (v :: ts) (.own o :: te) H) :
    RelF K B (frzF F H O (σ.length + ts.length)) (frzO O (σ.length + ts.length)) σ env (v :: ts) (.d d :: te) H := by
  have rfn : ∀ {j : Nat} {v : V} {a : A}, CellO K B F H O σ j v a → isNest (σ.length + ts.length) a = false := fun {j v a} h => by
    cases a with
    | rf i p =>
      obtain ⟨w, hw, _⟩ := h
      have := (List.getElem?_eq_some_iff.mp hw).1
      cases p with
      | none => rfl
      | some k =>
        show (i == σ.length + ts.length) = false
        rw [beq_eq_false_iff_ne]
        omega
    | _ => rfl
  have tn : ∀ {us : List V} {ue : List A}, TmO K B F H O σ us ue → ∀ a ∈ ue, isNest (σ.length + ts.length) a = false := fun {us} => by
    induction us with
    | nil => intro ue h a ha; cases ue with
      | nil => cases ha
      | cons => exact h.elim
    | cons u us ih =>
      intro ue h a ha
      cases ue with
      | nil => cases ha
      | cons x ue =>
        rcases List.mem_cons.mp ha with rfl | ha
        · exact rfn h.1
        · exact ih h.2 a ha
  have hjo : B.io (σ.length + ts.length) = false := by
    cases q : B.io (σ.length + ts.length) with
    | false => rfl
    | true =>
      obtain ⟨o', ho⟩ := R.bi _ q
      have := (List.getElem?_eq_some_iff.mp ho).1
      have := R.ln
      omega
  refine R.frz hjo rfl (fun i a e => .inr ⟨?_, e, ?_⟩) (fun _ _ => rfl) ⟨frz_own R R.tm.1 hd, TmO.frz R R.tm.2 (tn R.tm.2) (.inr (Nat.le_refl _))⟩
  · have : i < env.length := (List.getElem?_eq_some_iff.mp e).1
    have := R.ln
    omega
  · obtain ⟨w, hw, h⟩ := R.sl i a e
    exact rfn h
/-- the top goes into the slot i -/
theorem RelF.asg {v : V} {a : A} (R : RelF K B F O σ env (v :: ts) (a :: te) H) {i : Nat} (il : i < env.length) (nio : ∀ o, env[i]? ≠ some (some (.io o))) (nn : anyC (isRf i) env (a :: te) = false) (na : isIo a = false) :
    RelF K B F (fun b => if O b = some (σ.length + ts.length) then some i else if O b = some i then none else O b) (σ.set i (some v)) (env.set i (some a)) ts te H := by
  have ln := R.ln
  have k : ∀ j, j ≠ σ.length + ts.length → j ≠ i → ∀ b, O b = some j → (fun b => if O b = some (σ.length + ts.length) then some i else if O b = some i then none else O b) b = some j ∧ H b = H b := fun j h1 h2 b z =>
    ⟨(if_neg (by rw [z]; exact fun y => h1 (Option.some.inj y))).trans ((if_neg (by rw [z]; exact fun y => h2 (Option.some.inj y))).trans z), rfl⟩
  have rf : ∀ j w, σ[j]? = some (some w) → j ≠ σ.length + ts.length := fun j w e => by have := (List.getElem?_eq_some_iff.mp e).1; omega
  have st : ∀ j w, j ≠ i → σ[j]? = some (some w) → (σ.set i (some v))[j]? = some (some w) := fun j w nj e => by rw [List.getElem?_set, if_neg (Ne.symm nj)]; exact e
  have cm : ∀ {j : Nat} {u : V} {c : A}, CellO K B F H O σ j u c → j ≠ σ.length + ts.length → j ≠ i → isRf i c = false → CellO K B F H (fun b => if O b = some (σ.length + ts.length) then some i else if O b = some i then none else O b) (σ.set i (some v)) j u c := fun {j u c} h nj ni hc => by
    have ri : ∀ i' p, c = .rf i' p → i' ≠ i := fun i' p e z => by
      rw [e, z] at hc
      simp [isRf] at hc
    refine h.mono (Same.refl F) (k j nj ni) (fun _ _ => rfl) (fun i' p w e z => st i' w (ri i' p e) z) (fun i' kk e b z => ?_)
    have e' := ri i' _ e
    rw [e] at h
    obtain ⟨w, hw, _⟩ := h
    exact k i' (rf i' w hw) e' b z
  have tm : ∀ {us : List V} {ue : List A}, us.length ≤ ts.length → (∀ c ∈ ue, isRf i c = false) → TmO K B F H O σ us ue → TmO K B F H (fun b => if O b = some (σ.length + ts.length) then some i else if O b = some i then none else O b) (σ.set i (some v)) us ue := fun {us} => by
    induction us with
    | nil => intro ue _ _ h; cases ue with
      | nil => trivial
      | cons => exact h.elim
    | cons u us ih =>
      intro ue hl hc h
      cases ue with
      | nil => exact h.elim
      | cons x ue =>
        rw [List.length_cons] at hl
        refine ⟨?_, ih (by omega) (fun c z => hc c (List.mem_cons_of_mem _ z)) h.2⟩
        rw [List.length_set]
        exact cm h.1 (by omega) (by omega) (hc x List.mem_cons_self)
  refine ⟨by rw [List.length_set, List.length_set]; exact ln, fun j c e => ?_, tm (Nat.le_refl _) (fun c z => anyC_te nn (List.mem_cons_of_mem _ z)) R.tm.2, R.sf, fun b j z => ?_, R.b1, R.b2, R.b3, R.b5, fun j hj => ?_, R.tb⟩
  · rw [List.getElem?_set] at e
    by_cases ji : i = j
    · subst ji
      rw [if_pos rfl, if_pos il] at e
      cases e
      refine ⟨v, by rw [List.getElem?_set, if_pos rfl, if_pos (by rw [ln]; exact il)], ?_⟩
      have ha := anyC_te nn (List.mem_cons_self (a := a) (l := te))
      refine R.tm.1.mono (Same.refl F) (fun b z => ⟨if_pos z, rfl⟩) (fun o eo => ?_) (fun i' p w e z => st i' w ?_ z) (fun i' kk e b z => ?_)
      · rw [eo] at na
        simp [isIo] at na
      · rintro rfl
        rw [e] at ha
        simp [isRf] at ha
      · have hm := R.tm.1
        have ne : i' ≠ i := by
          rintro rfl
          rw [e] at ha
          simp [isRf] at ha
        rw [e] at hm
        obtain ⟨w, hw, _⟩ := hm
        exact k i' (rf i' w hw) ne b z
    · rw [if_neg ji] at e
      obtain ⟨u, e1, h⟩ := R.sl j c e
      exact ⟨u, st j u (Ne.symm ji) e1, cm h (rf j u e1) (Ne.symm ji) (anyC_env nn e)⟩
  · rw [List.length_set]
    by_cases h1 : O b = some (σ.length + ts.length)
    · have z' : some i = some j := (if_pos h1).symm.trans z
      obtain ⟨q1, q2, q3, q4⟩ := R.of b _ h1
      refine ⟨q1, q2, ?_, .inl ?_⟩
      · rw [← Option.some.inj z']
        omega
      · rcases q4 with q4 | ⟨_, q4⟩
        · exact q4
        · obtain ⟨o', ho⟩ := R.bi _ q4
          have := (List.getElem?_eq_some_iff.mp ho).1
          omega
    · have z1 : (if O b = some i then none else O b) = some j := (if_neg h1).symm.trans z
      by_cases h2 : O b = some i
      · rw [if_pos h2] at z1
        cases z1
      · rw [if_neg h2] at z1
        obtain ⟨q1, q2, q3, q4⟩ := R.of b j z1
        refine ⟨q1, q2, ?_, q4⟩
        rw [List.length_cons] at q3
        have : j ≠ σ.length + ts.length := fun y => h1 (by rw [z1, y])
        omega
  · obtain ⟨o, ho⟩ := R.bi j hj
    refine ⟨o, ?_⟩
    rw [List.getElem?_set, if_neg (fun z => nio o (by rw [z]; exact ho))]
    exact ho
end
end Tw

namespace Tw
open PySem PySem.Spec PyProof.Rows L2
/-! ### mirrors as functions: what a text does to values -/
inductive Rs (α : Type) where
  | ok (a : α) (e : Env)
  | ex (x : Xc) (e : Env)
  | bad
def Rs.bind {α β : Type} (r : Rs α) (f : α → Env → Rs β) : Rs β := match r with
  | .ok a e => f a e
  | .ex x e => .ex x e
  | .bad => .bad
@[simp] theorem Rs.bind_ok {α β : Type} (a : α) (e : Env) (f : α → Env → Rs β) : (Rs.ok a e).bind f = f a e := rfl
@[simp] theorem Rs.bind_ex {α β : Type} (x : Xc) (e : Env) (f : α → Env → Rs β) : (Rs.ex x e : Rs α).bind f = .ex x e := rfl
@[simp] theorem Rs.bind_bad {α β : Type} (f : α → Env → Rs β) : (Rs.bad : Rs α).bind f = .bad := rfl
abbrev ME := Env → List A → Rs A
abbrev MA := Env → List A → Rs (List A)
abbrev MT := Env → List A → Rs Bool
inductive Fl where
  | nx (e : Env)
  | rt (a : A) (e : Env)
  | bk (e : Env)
  | ct (e : Env)
  | ex (x : Xc) (e : Env)
  | bad
abbrev MS := Env → List A → Fl
/-- how an exception stands -/
def XIs (K : KW) (x : Xc) (us : List V) (cls : Value) (d : Option Addr) (H : Hp) : Prop := cls = .ref (He.ga K x.cls) ∧ ((x.fs = [] ∧ d = none) ∨ ∃ dx, d = some dx ∧ H dx = some (.xd ((x.fs.map (·.1)).zip us)))
/-! ### reading a cell -/
def lkD {α : Type} (kvs : List (Key × α)) (k : Key) : Option α := (kvs.find? fun kv => decide (kv.1 = k)).map (·.2)
def putD {α : Type} (kvs : List (Key × α)) (k : Key) (v : α) : List (Key × α) :=
  if (kvs.any fun kv => decide (kv.1 = k)) = true then kvs.map (fun kv => if kv.1 = k then (kv.1, v) else kv) else kvs ++ [(k, v)]
def owAt (env : Env) (i : Nat) : Option Ow := match env[i]? with
  | some (some (.own o)) => some o
  | some (some (.io o)) => some o
  | _ => none
def Ow.sub : Ow → Key → Option (List Dt)
  | .ll xss, .inl n => if 0 ≤ n then xss[n.toNat]? else none
  | .dl kvs, k => lkD kvs k
  | _, _ => none
/-- the thing that is told, if owned -/
def A.ow (env : Env) : A → Option Ow
  | .d _ => none
  | .own o => some o
  | .io o => some o
  | .rf i none => owAt env i
  | .rf i (some k) => match owAt env i with
    | some o => (o.sub k).map .l
    | none => none
  | .sc _ => none
  | .q _ => none
  | .lk _ => none
  | .xr _ => none
def A.val (env : Env) (a : A) : Option Dt := match a with
  | .d x => some x
  | .lk kvs => some (.dict kvs)
  | a => (a.ow env).bind Ow.dt
section
variable {K : KW} {B : Bs} {F H : Hp} {O : Addr → Option Nat} {σ : List (Option V)} {env : Env} {ts : List V} {te : List A} {W : WX}
theorem paired_lk {α : Type} {R : V → α → Prop} {us : List (Key × V)} {kvs : List (Key × α)} (p : Paired (fun (p : Key × V) (q : Key × α) => p.1 = q.1 ∧ R p.2 q.2) us kvs) (k : Key) :
    (∀ x, lkD kvs k = some x → ∃ v, valV us k = some v ∧ R v x) ∧ (lkD kvs k = none → valV us k = none) := by
  induction p with
  | nil => exact ⟨(fun x h => nomatch h), fun _ => rfl⟩
  | @cons p q ps qs h _ ih =>
    obtain ⟨e, r⟩ := h
    unfold lkD valV
    rw [List.find?_cons, List.find?_cons, e]
    by_cases c : q.1 = k
    · rw [decide_eq_true c]
      exact ⟨fun x h => ⟨p.2, rfl, by cases h; exact r⟩, fun h => nomatch h⟩
    · rw [decide_eq_false c]
      exact ih
theorem RelF.owAt (R : RelF K B F O σ env ts te H) {i : Nat} {o : Ow} {w : V} (h : owAt env i = some o) (hw : σ[i]? = some (some w)) : OwO K F H (fun a => O a = some i) w o := by
  unfold Tw.owAt at h
  cases e : env[i]? with
  | none => rw [e] at h; cases h
  | some c =>
    cases c with
    | none => rw [e] at h; cases h
    | some a =>
      rw [e] at h
      obtain ⟨v, hv, q⟩ := R.sl i a e
      rw [hw] at hv
      cases hv
      cases a with
      | d x => cases h
      | own o' => cases h; exact OwO.mono (own := fun a => O a = some i ∧ B.H a = none) (Same.refl F) (fun a z => z.1) (fun a z => rfl) q
      | io o' => cases h; exact q.1
      | rf j p => cases h
      | sc ns => cases h
      | q xs => cases h
      | lk xs => cases h
      | xr xs => cases h
theorem cell_ow (R : RelF K B F O σ env ts te H) {j : Nat} {v : V} {a : A} {o : Ow} (c : CellO K B F H O σ j v a) (h : a.ow env = some o) : ∃ own : Addr → Prop, OwO K F H own v o := by
  cases a with
  | d x => cases h
  | sc x => cases h
  | q x => cases h
  | lk x => cases h
  | xr x => cases h
  | own o' => cases h; exact ⟨_, c⟩
  | io o' => cases h; exact ⟨_, c.1⟩
  | rf i p =>
    obtain ⟨w, hw, q⟩ := c
    cases p with
    | none => cases q; exact ⟨_, R.owAt h hw⟩
    | some k =>
      have h' : (match Tw.owAt env i with | some o => (o.sub k).map Ow.l | none => none) = some o := h
      cases e : Tw.owAt env i with
      | none => rw [e] at h'; cases h'
      | some u =>
        rw [e] at h'
        obtain ⟨a, ew, oa, q⟩ := q
        have z := R.owAt e hw
        cases hs : u.sub k with
        | none => rw [show (match some u with | some o => (o.sub k).map Ow.l | none => none) = (u.sub k).map Ow.l from rfl, hs] at h'; cases h'
        | some xs =>
          rw [show (match some u with | some o => (o.sub k).map Ow.l | none => none) = (u.sub k).map Ow.l from rfl, hs] at h'
          cases h'
          refine ⟨fun a => O a = some i, ?_⟩
          cases u with
          | l _ => cases hs
          | dc _ => cases hs
          | x _ => cases hs
          | ll xss =>
            obtain ⟨a', vs, e1, o1, h1, n1, m1, p1⟩ := z
            rw [ew] at e1
            cases e1
            cases k with
            | inr _ => cases hs
            | inl n =>
              have hs' : (if 0 ≤ n then xss[n.toNat]? else none) = some xs := hs
              by_cases n0 : 0 ≤ n
              · rw [if_pos n0] at hs'
                rcases q with ⟨vs', m, em, m0, hv, hq⟩ | ⟨us, hu, _⟩
                · cases em
                  rw [h1] at hv
                  cases hv
                  obtain ⟨x, hx, r⟩ := paired_getR p1 hs'
                  rw [hq] at hx
                  cases hx
                  exact r
                · rw [h1] at hu; cases hu
              · rw [if_neg n0] at hs'; cases hs'
          | dl kvs =>
            obtain ⟨a', us, e1, o1, h1, n1, m1, p1⟩ := z
            rw [ew] at e1
            cases e1
            rcases q with ⟨vs', m, em, m0, hv, hq⟩ | ⟨us', hu, hq⟩
            · rw [h1] at hv; cases hv
            · rw [h1] at hu
              cases hu
              obtain ⟨x, hx, r⟩ := (paired_lk (R := OwL K F H fun a => O a = some i) p1 k).1 xs hs
              rw [hq] at hx
              cases hx
              exact r
theorem owo_H {own : Addr → Prop} {v : V} {o : Ow} (s : Same F H) (h : OwO K F H own v o) {d : Dt} (hd : o.dt = some d) : Dn K H v d := OwO.dn s (fun _ _ => rfl) h hd
theorem cell_val (R : RelF K B F O σ env ts te H) {j : Nat} {v : V} {a : A} {x : Dt} (c : CellO K B F H O σ j v a) (h : a.val env = some x) : Dn K H v x := by
  have g : ∀ o, a.ow env = some o → o.dt = some x → Dn K H v x := fun o e1 e2 => by
    obtain ⟨own, q⟩ := cell_ow R c e1
    exact owo_H R.sf q e2
  have g2 : (a.ow env).bind Ow.dt = some x → Dn K H v x := fun h => by
    cases e : a.ow env with
    | none => rw [e] at h; cases h
    | some o => rw [e] at h; exact g o e h
  cases a with
  | d y => cases h; exact Dn.same R.sf c
  | own o => exact g2 h
  | io o => exact g2 h
  | rf i p => exact g2 h
  | sc x => exact g2 h
  | q x => exact g2 h
  | lk kvs =>
    cases h
    obtain ⟨a, o, us, e, q, d⟩ := c
    subst e
    exact .dct (.inr ⟨o, R.sf _ _ (R.b1 _ _ q)⟩) (d.same (R.b1.trans R.sf))
  | xr x => exact g2 h
/-- the items of a list -/
def Ow.lst? : Ow → Option (List Dt)
  | .l xs => some xs
  | _ => none
def A.lstT? (env : Env) (a : A) : Option (List Dt) := match a with
  | .d (.list xs) => some xs
  | .d _ => none
  | a => (a.ow env).bind Ow.lst?
def A.lst? (env : Env) (a : A) : Option (List Dt) := match a with
  | .sc ns => some (ns.map .int)
  | a => a.lstT? env
def A.tup? : A → Option (List Dt)
  | .d (.tuple xs) => some xs
  | .q xs => some xs
  | _ => none
theorem dn_ints : ∀ ns : List Int, DnAll K F (ns.map V.int) (ns.map .int)
  | [] => .nil
  | n :: ns => .cons (.int n) (dn_ints ns)
theorem cell_lstT (R : RelF K B F O σ env ts te H) {j : Nat} {v : V} {a : A} {xs : List Dt} (c : CellO K B F H O σ j v a) (h : a.lstT? env = some xs) : ∃ p vs, v = .ref p ∧ H p = some (.lst vs) ∧ DnAll K F vs xs := by
  have g2 : (a.ow env).bind Ow.lst? = some xs → ∃ p vs, v = .ref p ∧ H p = some (.lst vs) ∧ DnAll K F vs xs := fun h => by
    cases e : a.ow env with
    | none => rw [e] at h; cases h
    | some o =>
      rw [e] at h
      obtain ⟨own, q⟩ := cell_ow R c e
      cases o with
      | l ys =>
        cases h
        obtain ⟨p, vs, e1, _, h1, d⟩ := q
        exact ⟨p, vs, e1, h1, d⟩
      | _ => cases h
  cases a with
  | d y =>
    cases y with
    | list ys =>
      cases h
      cases c with
      | lst h1 h2 => exact ⟨_, _, rfl, R.sf _ _ h1, h2⟩
    | _ => cases h
  | own o => exact g2 h
  | io o => exact g2 h
  | rf i p => exact g2 h
  | sc x => exact g2 h
  | q x => exact g2 h
  | lk x => exact g2 h
  | xr x => exact g2 h
theorem cell_lst (R : RelF K B F O σ env ts te H) {j : Nat} {v : V} {a : A} {xs : List Dt} (c : CellO K B F H O σ j v a) (h : a.lst? env = some xs) : ∃ p vs, v = .ref p ∧ SqL K H p vs ∧ DnAll K F vs xs := by
  have g : a.lstT? env = some xs → ∃ p vs, v = .ref p ∧ SqL K H p vs ∧ DnAll K F vs xs := fun h => by
    obtain ⟨p, vs, e, h1, h2⟩ := cell_lstT R c h
    exact ⟨p, vs, e, .inl (.inl h1), h2⟩
  cases a with
  | sc ns =>
    cases h
    obtain ⟨p, e, q⟩ := c
    exact ⟨p, _, e, Same.sqL R.sf q, dn_ints ns⟩
  | d x => exact g h
  | own o => exact g h
  | io o => exact g h
  | rf i p => exact g h
  | q x => exact g h
  | lk x => exact g h
  | xr x => exact g h
theorem cell_tup (R : RelF K B F O σ env ts te H) {j : Nat} {v : V} {a : A} {xs : List Dt} (c : CellO K B F H O σ j v a) (h : a.tup? = some xs) : ∃ p vs, v = .ref p ∧ SqT K H p vs ∧ SqT K F p vs ∧ DnAll K F vs xs := by
  cases a with
  | d y =>
    cases y with
    | tuple ys =>
      cases h
      cases c with
      | tup h1 h2 => exact ⟨_, _, rfl, Same.sqT' R.sf h1.sq, h1.sq, h2⟩
    | _ => cases h
  | q ys =>
    cases h
    obtain ⟨p, vs, e, h1, h2⟩ := c
    exact ⟨p, vs, e, Same.sqT' R.sf h1, h1, h2⟩
  | _ => cases h
theorem dn_tup {v : V} {xs : List Dt} (c : Dn K F v (.tuple xs)) : ∃ p vs, v = .ref p ∧ TupN K F p vs ∧ DnAll K F vs xs := by
  cases c with
  | tup h1 h2 => exact ⟨_, _, rfl, h1, h2⟩
/-! ### what is put on top -/
theorem RelF.rel (R : RelF K B F O σ env ts te H) : Rel K B σ env ts te H := ⟨F, O, R⟩
theorem RelF.pushD (R : RelF K B F O σ env ts te H) {v : V} {x : Dt} (h : Dn K F v x) : Rel K B σ env (v :: ts) (.d x :: te) H := ⟨F, O, R.push (a := .d x) h⟩
theorem RelF.pushT (R : RelF K B F O σ env ts te H) {p : Addr} (h : H p = none) {ob : Obj} (hob : ob.dict = none) {vs : List V} {xs : List Dt} (d : DnAll K F vs xs) : Rel K B σ env (.ref p :: ts) (.d (.tuple xs) :: te) (upd H p (.frz ob (.tup vs))) := by
  have R' := R.new h (.frz ob (.tup vs))
  exact R'.pushD (.tup (.inl ⟨ob, upd_same, hob⟩) (d.same (same_newV (R.fresh h).1)))
theorem RelF.pushQ (R : RelF K B F O σ env ts te H) {p : Addr} (h : H p = none) {vs : List V} {xs : List Dt} (d : DnAll K F vs xs) : Rel K B σ env (.ref p :: ts) (.q xs :: te) (upd H p (.tup vs)) := by
  have R' := R.new h (.tup vs)
  exact ⟨_, _, R'.push (a := .q xs) ⟨p, vs, rfl, .inl (.inl upd_same), d.same (same_newV (R.fresh h).1)⟩⟩
theorem RelF.pushL (R : RelF K B F O σ env ts te H) {p : Addr} (h : H p = none) {vs : List V} {xs : List Dt} (d : DnAll K F vs xs) : Rel K B σ env (.ref p :: ts) (.own (.l xs) :: te) (upd H p (.lst vs)) :=
  ⟨F, _, R.newL h (o := .lst vs) (mutO_lst vs) (w := .l xs) fun own hp => ⟨p, vs, rfl, hp, upd_same, d⟩⟩
theorem Rel.pop {v : V} {a : A} (R : Rel K B σ env (v :: ts) (a :: te) H) : Rel K B σ env ts te H := by
  obtain ⟨F, O, R⟩ := R
  exact ⟨F, _, R.pop⟩
theorem Rel.len (R : Rel K B σ env ts te H) : σ.length = env.length ∧ ts.length = te.length := by
  obtain ⟨F, O, R⟩ := R
  exact ⟨R.ln, R.tm.len⟩
theorem popN : ∀ {us : List V} {ue : List A} {O : Addr → Option Nat}, us.length = ue.length → RelF K B F O σ env (us ++ ts) (ue ++ te) H → ∃ O', RelF K B F O' σ env ts te H
  | [], [], O, _, R => ⟨O, R⟩
  | [], _ :: _, _, h, _ => nomatch h
  | _ :: _, [], _, h, _ => nomatch h
  | u :: us, a :: ue, O, h, R => popN (Nat.succ.inj h) (RelF.pop (v := u) (a := a) R)
theorem Rel.popN {us : List V} {ue : List A} (R : Rel K B σ env (us ++ ts) (ue ++ te) H) (h : us.length = ue.length) : Rel K B σ env ts te H := by
  obtain ⟨F, O, R⟩ := R
  obtain ⟨O', R'⟩ := Tw.popN h R
  exact ⟨F, O', R'⟩
end

section
variable {K : KW} {B : Bs} {W : WX}
def XPost (K : KW) (B : Bs) (W : WX) (σ : L2.St) (ts : List V) (te : List A) (x : Xc) (e : Env) : Prop := ∀ cls d H us F O, RelF K B F O σ e ts te H → DnAll K F us (x.fs.map (·.2)) → XIs K x us cls d F → W cls d σ H
def PE' (K : KW) (B : Bs) (W : WX) (σ : L2.St) (ts : List V) (te : List A) (Q : VK) : Rs A → Prop
  | .ok a e => ∀ v H, Rel K B σ e (v :: ts) (a :: te) H → Q v H
  | .ex x e => XPost K B W σ ts te x e
  | .bad => False
def PA' (K : KW) (B : Bs) (W : WX) (σ : L2.St) (ts : List V) (te : List A) (Q : List V → Hp → Prop) : Rs (List A) → Prop
  | .ok as e => ∀ vs H, vs.length = as.length → Rel K B σ e (vs.reverse ++ ts) (as.reverse ++ te) H → Q vs H
  | .ex x e => XPost K B W σ ts te x e
  | .bad => False
def PT' (K : KW) (B : Bs) (W : WX) (σ : L2.St) (ts : List V) (te : List A) (Q : Bool → Hp → Prop) : Rs Bool → Prop
  | .ok b e => ∀ H, Rel K B σ e ts te H → Q b H
  | .ex x e => XPost K B W σ ts te x e
  | .bad => False
def PS' (K : KW) (B : Bs) (W : WX) (ts : List V) (te : List A) (D : Ends) : Fl → Prop
  | .nx e => ∀ σ H, Rel K B σ e ts te H → D.nx σ H
  | .rt a e => ∀ v σ ts' te' H, Rel K B σ e (v :: ts') (a :: te') H → D.rt v H
  | .bk e => ∀ σ H, Rel K B σ e ts te H → D.bk σ H
  | .ct e => ∀ σ H, Rel K B σ e ts te H → D.ct σ H
  | .ex x e => ∀ σ, XPost K B W σ ts te x e
  | .bad => False
def SE (K : KW) (B : Bs) (W : WX) (t : TE) (m : ME) : Prop := ∀ σ env ts te H Q, Rel K B σ env ts te H → PE' K B W σ ts te Q (m env te) → t σ H Q
def SA (K : KW) (B : Bs) (W : WX) (t : TA) (m : MA) : Prop := ∀ σ env ts te H Q, Rel K B σ env ts te H → PA' K B W σ ts te Q (m env te) → t σ H Q
def ST (K : KW) (B : Bs) (W : WX) (t : TT) (m : MT) : Prop := ∀ σ env ts te H Q, Rel K B σ env ts te H → PT' K B W σ ts te Q (m env te) → t σ H Q
def SS (K : KW) (B : Bs) (W : WX) (t : TS) (m : MS) : Prop := ∀ σ env ts te H D, Rel K B σ env ts te H → PS' K B W ts te D (m env te) → t D σ H
theorem XPost.push {σ : L2.St} {ts : List V} {te : List A} {x : Xc} {e : Env} (h : XPost K B W σ ts te x e) (v : V) (a : A) : XPost K B W σ (v :: ts) (a :: te) x e :=
  fun cls d H us F O R => h cls d H us F _ R.pop
theorem SE.thE {t : TE} {m : ME} (h : SE K B W t m) {σ : L2.St} {env : Env} {ts : List V} {te : List A} {H : Hp} {Q Q0 : VK} (R : Rel K B σ env ts te H) {f : A → Env → Rs A} (p : PE' K B W σ ts te Q0 ((m env te).bind f))
    (hok : ∀ a e, PE' K B W σ ts te Q0 (f a e) → ∀ v H', Rel K B σ e (v :: ts) (a :: te) H' → Q v H') : t σ H Q := by
  refine h σ env ts te H Q R ?_
  cases e : m env te with
  | ok a e' => rw [e] at p; exact hok a e' p
  | ex x e' => rw [e] at p; exact p
  | bad => rw [e] at p; exact p
theorem SE.thT {t : TE} {m : ME} (h : SE K B W t m) {σ : L2.St} {env : Env} {ts : List V} {te : List A} {H : Hp} {Q : VK} {Q0 : Bool → Hp → Prop} (R : Rel K B σ env ts te H) {f : A → Env → Rs Bool} (p : PT' K B W σ ts te Q0 ((m env te).bind f))
    (hok : ∀ a e, PT' K B W σ ts te Q0 (f a e) → ∀ v H', Rel K B σ e (v :: ts) (a :: te) H' → Q v H') : t σ H Q := by
  refine h σ env ts te H Q R ?_
  cases e : m env te with
  | ok a e' => rw [e] at p; exact hok a e' p
  | ex x e' => rw [e] at p; exact p
  | bad => rw [e] at p; exact p
theorem SE.thA {t : TE} {m : ME} (h : SE K B W t m) {σ : L2.St} {env : Env} {ts : List V} {te : List A} {H : Hp} {Q : VK} {Q0 : List V → Hp → Prop} (R : Rel K B σ env ts te H) {f : A → Env → Rs (List A)} (p : PA' K B W σ ts te Q0 ((m env te).bind f))
    (hok : ∀ a e, PA' K B W σ ts te Q0 (f a e) → ∀ v H', Rel K B σ e (v :: ts) (a :: te) H' → Q v H') : t σ H Q := by
  refine h σ env ts te H Q R ?_
  cases e : m env te with
  | ok a e' => rw [e] at p; exact hok a e' p
  | ex x e' => rw [e] at p; exact p
  | bad => rw [e] at p; exact p
theorem ST.thE {t : TT} {m : MT} (h : ST K B W t m) {σ : L2.St} {env : Env} {ts : List V} {te : List A} {H : Hp} {Q : Bool → Hp → Prop} {Q0 : VK} (R : Rel K B σ env ts te H) {f : Bool → Env → Rs A} (p : PE' K B W σ ts te Q0 ((m env te).bind f))
    (hok : ∀ a e, PE' K B W σ ts te Q0 (f a e) → ∀ H', Rel K B σ e ts te H' → Q a H') : t σ H Q := by
  refine h σ env ts te H Q R ?_
  cases e : m env te with
  | ok a e' => rw [e] at p; exact hok a e' p
  | ex x e' => rw [e] at p; exact p
  | bad => rw [e] at p; exact p
theorem ST.thT {t : TT} {m : MT} (h : ST K B W t m) {σ : L2.St} {env : Env} {ts : List V} {te : List A} {H : Hp} {Q Q0 : Bool → Hp → Prop} (R : Rel K B σ env ts te H) {f : Bool → Env → Rs Bool} (p : PT' K B W σ ts te Q0 ((m env te).bind f))
    (hok : ∀ a e, PT' K B W σ ts te Q0 (f a e) → ∀ H', Rel K B σ e ts te H' → Q a H') : t σ H Q := by
  refine h σ env ts te H Q R ?_
  cases e : m env te with
  | ok a e' => rw [e] at p; exact hok a e' p
  | ex x e' => rw [e] at p; exact p
  | bad => rw [e] at p; exact p
theorem SA.thE {t : TA} {m : MA} (h : SA K B W t m) {σ : L2.St} {env : Env} {ts : List V} {te : List A} {H : Hp} {Q : List V → Hp → Prop} {Q0 : VK} (R : Rel K B σ env ts te H) {f : List A → Env → Rs A} (p : PE' K B W σ ts te Q0 ((m env te).bind f))
    (hok : ∀ as e, PE' K B W σ ts te Q0 (f as e) → ∀ vs H', vs.length = as.length → Rel K B σ e (vs.reverse ++ ts) (as.reverse ++ te) H' → Q vs H') : t σ H Q := by
  refine h σ env ts te H Q R ?_
  cases e : m env te with
  | ok a e' => rw [e] at p; exact hok a e' p
  | ex x e' => rw [e] at p; exact p
  | bad => rw [e] at p; exact p
end
end Tw

namespace Tw
open PySem PySem.Spec PyProof.Rows L2
/-! ### expressions -/
def vA (i : Nat) : A → A
  | .own _ => .rf i none
  | .io _ => .rf i none
  | a => a
def mVar (i : Nat) : ME := fun env _ => match env[i]? with
  | some (some a) => .ok (vA i a) env
  | _ => .bad
def mC (x : Dt) : ME := fun env _ => .ok (.d x) env
def mNil : MA := fun env _ => .ok [] env
def mCons (m : ME) (r : MA) : MA := fun env te => (m env te).bind fun a e1 => (r e1 (a :: te)).bind fun as e2 => .ok (a :: as) e2
/-- made a datum -/
def frzA (a : A) (env : Env) (te : List A) : Option (Dt × Env) := match a with
  | .d x => some (x, env)
  | .own o => o.dt.map fun x => (x, env)
  | .rf i none => match env[i]? with
    | some (some (.own o)) => if anyC (isRf i) env te = false then o.dt.map (fun x => (x, env.set i (some (.d x)))) else none
    | _ => none
  | _ => none
def mD (m : ME) : ME := fun env te => (m env te).bind fun a e => match frzA a e te with
  | some (x, e') => .ok (.d x) e'
  | none => .bad
def mOp (f : Env → A → A → Rs A) (ma mb : ME) : ME := fun env te => (ma env te).bind fun a e1 => (mb e1 (a :: te)).bind fun b e2 => f e2 a b
def mU (f : Env → A → Rs A) (ma : ME) : ME := fun env te => (ma env te).bind fun a e1 => f e1 a
def mCB (f : Env → List A → Rs A) (m : MA) : ME := fun env te => (m env te).bind fun as e => f e as
def vOf : Dt → V
  | .bool b => .bl b
  | .int i => .int i
  | .str s => .str s
  | _ => .non
def flatD : Dt → Bool
  | .none => true
  | .bool _ => true
  | .int _ => true
  | .str s => decide (s.length ≤ sizeLine)
  | _ => false
theorem dn_flat {K : KW} {F : Hp} : ∀ {z : Dt}, flatD z = true → Dn K F (vOf z) z
  | .none, _ => .non
  | .bool b, _ => .bl b
  | .int i, _ => .int i
  | .str s, h => .str s (of_decide_eq_true h)
  | .list _, h => nomatch h
  | .tuple _, h => nomatch h
  | .dict _, h => nomatch h
/-- a flat answer of data -/
def fl2 (g : Dt → Dt → Option Dt) : Env → A → A → Rs A := fun env a b => match a.val env, b.val env with
  | some x, some y => match g x y with
    | some z => .ok (.d z) env
    | none => .bad
  | _, _ => .bad
def fl1 (g : Dt → Option Dt) : Env → A → Rs A := fun env a => match a.val env with
  | some x => match g x with
    | some z => .ok (.d z) env
    | none => .bad
  | none => .bad
section
variable {K : KW} {B : Bs} {W : WX}
def SO1 (K : KW) (B : Bs) (W : WX) (r : V → Hp → VK → Prop) (f : Env → A → Rs A) : Prop := ∀ σ env ts te H Q v a, Rel K B σ env (v :: ts) (a :: te) H → PE' K B W σ ts te Q (f env a) → r v H Q
def SO2 (K : KW) (B : Bs) (W : WX) (r : R2) (f : Env → A → A → Rs A) : Prop := ∀ σ env ts te H Q v u a b, Rel K B σ env (u :: v :: ts) (b :: a :: te) H → PE' K B W σ ts te Q (f env a b) → r v u H Q
def SOA (K : KW) (B : Bs) (W : WX) (r : List V → Hp → VK → Prop) (f : Env → List A → Rs A) : Prop := ∀ σ env ts te H Q vs as, vs.length = as.length → Rel K B σ env (vs.reverse ++ ts) (as.reverse ++ te) H → PE' K B W σ ts te Q (f env as) → r vs H Q
theorem se_var (i : Nat) : SE K B W (tVar i) (mVar i) := by
  intro σ env ts te H Q R p
  obtain ⟨F, O, R⟩ := R
  unfold mVar at p
  cases e : env[i]? with
  | none => rw [e] at p; exact p.elim
  | some c =>
    cases c with
    | none => rw [e] at p; exact p.elim
    | some a =>
      rw [e] at p
      obtain ⟨v, hv, q⟩ := R.sl i a e
      refine ⟨v, hv, ?_⟩
      cases a with
      | d x => exact p v H (R.pushD q)
      | own o => exact p v H ⟨F, O, R.push (a := .rf i none) ⟨v, hv, rfl⟩⟩
      | io o => exact p v H ⟨F, O, R.push (a := .rf i none) ⟨v, hv, rfl⟩⟩
      | rf j q' => exact p v H ⟨F, O, R.push (a := .rf j q') q⟩
      | sc ns => exact p v H ⟨F, O, R.push (a := .sc ns) q⟩
      | q xs => exact p v H ⟨F, O, R.push (a := .q xs) q⟩
      | lk xs => exact p v H ⟨F, O, R.push (a := .lk xs) q⟩
      | xr xs => exact p v H ⟨F, O, R.push (a := .xr xs) q⟩
theorem se_c {x : Dt} (hf : flatD x = true) : SE K B W (tC (vOf x)) (mC x) := by
  intro σ env ts te H Q R p
  obtain ⟨F, O, R⟩ := R
  exact p _ H (R.pushD (dn_flat hf))
theorem se_non : SE K B W (tC .non) (mC .none) := se_c (x := .none) rfl
theorem se_bl (b : Bool) : SE K B W (tC (.bl b)) (mC (.bool b)) := se_c (x := .bool b) rfl
theorem se_int (i : Int) : SE K B W (tC (.int i)) (mC (.int i)) := se_c (x := .int i) rfl
theorem se_str (s : Str) (h : decide (s.length ≤ sizeLine) = true) : SE K B W (tC (.str s)) (mC (.str s)) := se_c (x := .str s) h
theorem sa_nil : SA K B W tNil mNil := fun σ env ts te H Q R p => p [] H rfl R
theorem sa_cons {t : TE} {tr : TA} {m : ME} {r : MA} (h1 : SE K B W t m) (h2 : SA K B W tr r) : SA K B W (tCons t tr) (mCons m r) := by
  intro σ env ts te H Q R p
  refine h1.thA R p (fun a e p v H' R' => ?_)
  refine h2 σ e (v :: ts) (a :: te) H' _ R' ?_
  have p : PA' K B W σ ts te Q ((r e (a :: te)).bind fun as e2 => .ok (a :: as) e2) := p
  cases q : r e (a :: te) with
  | ok as e2 =>
    rw [q] at p
    intro vs H2 hl R2
    refine p (v :: vs) H2 (congrArg (· + 1) hl) ?_
    rw [List.reverse_cons, List.append_assoc, List.reverse_cons, List.append_assoc]
    exact R2
  | ex x e2 => rw [q] at p; exact XPost.push p v a
  | bad => rw [q] at p; exact p
theorem rel_frz {σ : L2.St} {env e' : Env} {ts : List V} {te : List A} {H : Hp} {v : V} {a : A} {x : Dt} (R : Rel K B σ env (v :: ts) (a :: te) H) (h : frzA a env te = some (x, e')) : Rel K B σ e' (v :: ts) (.d x :: te) H := by
  obtain ⟨F, O, R⟩ := R
  cases a with
  | d y => cases h; exact ⟨F, O, R⟩
  | own o =>
    have h : o.dt.map (fun x => (x, env)) = some (x, e') := h
    cases hd : o.dt with
    | none => rw [hd] at h; cases h
    | some d => rw [hd] at h; cases h; exact ⟨_, _, R.frzT hd⟩
  | io o => cases h
  | sc ns => cases h
  | q ns => cases h
  | lk ns => cases h
  | xr ns => cases h
  | rf i p =>
    cases p with
    | some k => cases h
    | none =>
      cases e : env[i]? with
      | none => simp [frzA, e] at h
      | some c =>
        cases c with
        | none => simp [frzA, e] at h
        | some a =>
          cases a with
          | own o =>
            simp only [frzA, e] at h
            split at h
            · rename_i nn
              cases hd : o.dt with
              | none => rw [hd] at h; cases h
              | some d =>
              rw [hd] at h
              cases h
              obtain ⟨w, hw, q⟩ := R.tm.1
              have q : v = w := q
              subst q
              have R1 := (R.pop).frzS hd e nn
              obtain ⟨v', hv', h'⟩ := R1.sl i (.d x) (by rw [List.getElem?_set, if_pos rfl, if_pos (List.getElem?_eq_some_iff.mp e).1])
              rw [hw] at hv'
              cases hv'
              exact R1.pushD h'
            · cases h
          | _ => simp [frzA, e] at h
theorem se_D {t : TE} {m : ME} (h : SE K B W t m) : SE K B W t (mD m) := by
  intro σ env ts te H Q R p
  refine h.thE R p (fun a e p v H' R' => ?_)
  have p : PE' K B W σ ts te Q (match frzA a e te with | some (x, e') => .ok (.d x) e' | none => .bad) := p
  cases q : frzA a e te with
  | none => rw [q] at p; exact p.elim
  | some y => rw [q] at p; exact p v H' (rel_frz R' q)
theorem se_op {r : R2} {f : Env → A → A → Rs A} {ta tb : TE} {ma mb : ME} (o : SO2 K B W r f) (ha : SE K B W ta ma) (hb : SE K B W tb mb) : SE K B W (tOp r ta tb) (mOp f ma mb) := by
  intro σ env ts te H Q R p
  refine ha.thE R p (fun a e p v H' R' => ?_)
  refine hb σ e (v :: ts) (a :: te) H' _ R' ?_
  have p : PE' K B W σ ts te Q ((mb e (a :: te)).bind fun b e2 => f e2 a b) := p
  cases q : mb e (a :: te) with
  | ok b e2 =>
    rw [q] at p
    intro u H2 R2
    exact o σ e2 ts te H2 Q v u a b R2 p
  | ex x e2 => rw [q] at p; exact XPost.push p v a
  | bad => rw [q] at p; exact p
theorem se_cb {r : List V → Hp → VK → Prop} {f : Env → List A → Rs A} {t : TA} {m : MA} (o : SOA K B W r f) (h : SA K B W t m) : SE K B W (tCB r t) (mCB f m) := by
  intro σ env ts te H Q R p
  refine h σ env ts te H _ R ?_
  have p : PE' K B W σ ts te Q ((m env te).bind fun as e => f e as) := p
  cases q : m env te with
  | ok as e => rw [q] at p; intro vs H2 hl R2; exact o σ e ts te H2 Q vs as hl R2 p
  | ex x e2 => rw [q] at p; exact p
  | bad => rw [q] at p; exact p
/-! ### flat answers -/
def OpS (K : KW) (r : R2) (f : Dt → Dt → Option Dt) : Prop := ∀ H x y dx dy z Q, Dn K H x dx → Dn K H y dy → f dx dy = some z → flatD z = true ∧ (Q (vOf z) H → r x y H Q)
def UnS (K : KW) (r : V → Hp → VK → Prop) (f : Dt → Option Dt) : Prop := ∀ H x dx z Q, Dn K H x dx → f dx = some z → flatD z = true ∧ (Q (vOf z) H → r x H Q)
theorem so2_fl {r : R2} {g : Dt → Dt → Option Dt} (o : OpS K r g) : SO2 K B W r (fl2 g) := by
  intro σ env ts te H Q v u a b R p
  obtain ⟨F, O, R⟩ := R
  unfold fl2 at p
  cases e1 : a.val env with
  | none => rw [e1] at p; exact p.elim
  | some x =>
    cases e2 : b.val env with
    | none => rw [e1, e2] at p; exact p.elim
    | some y =>
      rw [e1, e2] at p
      cases e3 : g x y with
      | none => simp only [e3] at p; exact p.elim
      | some z =>
        simp only [e3] at p
        obtain ⟨hf, hr⟩ := o H v u x y z Q (cell_val R R.tm.2.1 e1) (cell_val R R.tm.1 e2) e3
        exact hr (p _ H (R.pop.pop.pushD (dn_flat hf)))
theorem so1_fl {r : V → Hp → VK → Prop} {g : Dt → Option Dt} (o : UnS K r g) : SO1 K B W r (fl1 g) := by
  intro σ env ts te H Q v a R p
  obtain ⟨F, O, R⟩ := R
  unfold fl1 at p
  cases e1 : a.val env with
  | none => rw [e1] at p; exact p.elim
  | some x =>
    rw [e1] at p
    cases e3 : g x with
    | none => simp only [e3] at p; exact p.elim
    | some z =>
      simp only [e3] at p
      obtain ⟨hf, hr⟩ := o H v x z Q (cell_val R R.tm.1 e1) e3
      exact hr (p _ H (R.pop.pushD (dn_flat hf)))
/-! ### tests -/
def tstA (a : A) (e : Env) : Rs Bool := match a with
  | .d (.bool b) => .ok b e
  | _ => .bad
def mTst (m : ME) : MT := fun env te => (m env te).bind tstA
def mAnd (a b : MT) : MT := fun env te => (a env te).bind fun c e => if c = true then b e te else .ok false e
def mOr (a b : MT) : MT := fun env te => (a env te).bind fun c e => if c = true then .ok true e else b e te
def mNot (a : MT) : MT := fun env te => (a env te).bind fun c e => .ok (!c) e
def mYes : MT := fun env _ => .ok true env
theorem tst_aux {σ : L2.St} {ts : List V} {te : List A} {H : Hp} {Q : Bool → Hp → Prop} {v : V} {a : A} {e : Env} (R : Rel K B σ e (v :: ts) (a :: te) H)
    (p : PT' K B W σ ts te Q (tstA a e)) : ∃ b, v = .bl b ∧ Q b H := by
  obtain ⟨F, O, R⟩ := R
  cases a with
  | d x =>
    cases x with
    | bool b =>
      have c : Dn K F v (.bool b) := R.tm.1
      cases c
      exact ⟨b, rfl, p H R.pop.rel⟩
    | _ => exact p.elim
  | _ => exact p.elim
theorem st_B {t : TE} {m : ME} (h : SE K B W t m) : ST K B W (tB t) (mTst m) := by
  intro σ env ts te H Q R p
  exact h.thT R p (fun a e p v H' R' => tst_aux R' p)
theorem st_Test {t : TE} {m : ME} (h : SE K B W t m) : ST K B W (tTest t) (mTst m) := st_B h
theorem st_and {t u : TT} {m n : MT} (h1 : ST K B W t m) (h2 : ST K B W u n) : ST K B W (tAnd t u) (mAnd m n) := by
  intro σ env ts te H Q R p
  refine h1.thT R p (fun b e p H' R' => ?_)
  cases b with
  | true => rw [if_pos rfl]; exact h2 σ e ts te H' Q R' p
  | false => rw [if_neg Bool.false_ne_true]; exact p H' R'
theorem st_or {t u : TT} {m n : MT} (h1 : ST K B W t m) (h2 : ST K B W u n) : ST K B W (tOr t u) (mOr m n) := by
  intro σ env ts te H Q R p
  refine h1.thT R p (fun b e p H' R' => ?_)
  cases b with
  | true => rw [if_pos rfl]; exact p H' R'
  | false => rw [if_neg Bool.false_ne_true]; exact h2 σ e ts te H' Q R' p
theorem st_yes : ST K B W tYes mYes := fun σ env ts te H Q R p => p H R
/-- conditional, and, or, not as values -/
def mIfE (c : MT) (a b : ME) : ME := fun env te => (c env te).bind fun x e => if x = true then a e te else b e te
theorem se_if {t : TT} {ta tb : TE} {m : MT} {ma mb : ME} (h : ST K B W t m) (ha : SE K B W ta ma) (hb : SE K B W tb mb) : SE K B W (tIf t ta tb) (mIfE m ma mb) := by
  intro σ env ts te H Q R p
  refine h.thE R p (fun b e p H' R' => ?_)
  cases b with
  | true => rw [if_pos rfl]; exact ha σ e ts te H' Q R' p
  | false => rw [if_neg Bool.false_ne_true]; exact hb σ e ts te H' Q R' p
def mAndE (a b : ME) : ME := fun env te => (mTst a env te).bind fun c e => if c = true then b e te else .ok (.d (.bool false)) e
def mOrE (a b : ME) : ME := fun env te => (mTst a env te).bind fun c e => if c = true then .ok (.d (.bool true)) e else b e te
def mNotE (a : ME) : ME := fun env te => (mTst a env te).bind fun c e => .ok (.d (.bool (!c))) e
end
end Tw

namespace Tw
open PySem PySem.Spec PyProof.Rows L2
/-! ### statements -/
def Rs.fl {α : Type} (r : Rs α) (f : α → Env → Fl) : Fl := match r with
  | .ok a e => f a e
  | .ex x e => .ex x e
  | .bad => .bad
@[simp] theorem Rs.fl_ok {α : Type} (a : α) (e : Env) (f : α → Env → Fl) : (Rs.ok a e).fl f = f a e := rfl
@[simp] theorem Rs.fl_ex {α : Type} (x : Xc) (e : Env) (f : α → Env → Fl) : (Rs.ex x e : Rs α).fl f = .ex x e := rfl
@[simp] theorem Rs.fl_bad {α : Type} (f : α → Env → Fl) : (Rs.bad : Rs α).fl f = .bad := rfl
def Fl.th (r : Fl) (f : Env → Fl) : Fl := match r with
  | .nx e => f e
  | r => r
@[simp] theorem Fl.th_nx (e : Env) (f : Env → Fl) : (Fl.nx e).th f = f e := rfl
@[simp] theorem Fl.th_rt (a : A) (e : Env) (f : Env → Fl) : (Fl.rt a e).th f = .rt a e := rfl
@[simp] theorem Fl.th_bk (e : Env) (f : Env → Fl) : (Fl.bk e).th f = .bk e := rfl
@[simp] theorem Fl.th_ct (e : Env) (f : Env → Fl) : (Fl.ct e).th f = .ct e := rfl
@[simp] theorem Fl.th_ex (x : Xc) (e : Env) (f : Env → Fl) : (Fl.ex x e).th f = .ex x e := rfl
@[simp] theorem Fl.th_bad (f : Env → Fl) : (Fl.bad).th f = .bad := rfl
/-- a slot that may be set -/
def setOk (i : Nat) (a : A) (env : Env) (te : List A) : Bool := decide (i < env.length) && (match env[i]? with
  | some (some (.io _)) => false
  | _ => true) && !anyC (isRf i) env (a :: te) && !isIo a
abbrev MG := A → Env → List A → Option Env
def gN (i : Nat) : MG := fun a env te => if setOk i a env te = true then some (env.set i (some a)) else none
def gTs : List Nat → List Dt → Env → List A → Option Env
  | [], [], env, _ => some env
  | i :: is, x :: xs, env, te => (gN i (.d x) env te).bind fun e => gTs is xs e te
  | _, _, _, _ => none
def gT (is : List Nat) : MG := fun a env te => match a.tup? with
  | some xs => gTs is xs env te
  | none => none
def mAsg (m : ME) (g : MG) : MS := fun env te => (m env te).fl fun a e => match g a e te with
  | some e' => .nx e'
  | none => .bad
def mDrop (m : ME) : MS := fun env te => (m env te).fl fun _ e => .nx e
def mSeq (m n : MS) : MS := fun env te => (m env te).th fun e => n e te
def mIfS (c : MT) (a b : MS) : MS := fun env te => (c env te).fl fun x e => if x = true then a e te else b e te
def mRet (m : ME) : MS := fun env te => (m env te).fl fun a e => .rt a e
def mRetN : MS := fun env _ => .rt (.d .none) env
def mNext : MS := fun env _ => .nx env
def mBrk : MS := fun env _ => .bk env
def mCt : MS := fun env _ => .ct env
def mNever : MS := fun _ _ => .bad
section
variable {K : KW} {B : Bs} {W : WX}
theorem SE.thS {t : TE} {m : ME} (h : SE K B W t m) {σ : L2.St} {env : Env} {ts : List V} {te : List A} {H : Hp} {Q : VK} {D : Ends} (R : Rel K B σ env ts te H) {f : A → Env → Fl} (p : PS' K B W ts te D ((m env te).fl f))
    (hok : ∀ a e, PS' K B W ts te D (f a e) → ∀ v H', Rel K B σ e (v :: ts) (a :: te) H' → Q v H') : t σ H Q := by
  refine h σ env ts te H Q R ?_
  cases e : m env te with
  | ok a e' => rw [e] at p; exact hok a e' p
  | ex x e' => rw [e] at p; exact p σ
  | bad => rw [e] at p; exact p
theorem ST.thS {t : TT} {m : MT} (h : ST K B W t m) {σ : L2.St} {env : Env} {ts : List V} {te : List A} {H : Hp} {Q : Bool → Hp → Prop} {D : Ends} (R : Rel K B σ env ts te H) {f : Bool → Env → Fl} (p : PS' K B W ts te D ((m env te).fl f))
    (hok : ∀ a e, PS' K B W ts te D (f a e) → ∀ H', Rel K B σ e ts te H' → Q a H') : t σ H Q := by
  refine h σ env ts te H Q R ?_
  cases e : m env te with
  | ok a e' => rw [e] at p; exact hok a e' p
  | ex x e' => rw [e] at p; exact p σ
  | bad => rw [e] at p; exact p
def SG (K : KW) (B : Bs) (g : TG) (mg : MG) : Prop := ∀ σ env ts te H v a e Q, Rel K B σ env (v :: ts) (a :: te) H → mg a env te = some e → (∀ σ' H', Rel K B σ' e ts te H' → Q σ' H') → g v σ H Q
theorem rel_set {σ : L2.St} {env : Env} {ts : List V} {te : List A} {H : Hp} {v : V} {a : A} {i : Nat} {e : Env} (R : Rel K B σ env (v :: ts) (a :: te) H) (h : gN i a env te = some e) : Rel K B (σ.set i (some v)) e ts te H := by
  obtain ⟨F, O, R⟩ := R
  unfold gN at h
  split at h
  · rename_i c
    cases h
    unfold setOk at c
    rw [Bool.and_eq_true, Bool.and_eq_true, Bool.and_eq_true] at c
    obtain ⟨⟨⟨c1, c2⟩, c3⟩, c4⟩ := c
    refine ⟨F, _, R.asg (of_decide_eq_true c1) (fun o z => ?_) (by simpa using c3) (by simpa using c4)⟩
    rw [z] at c2
    simp at c2
  · cases h
theorem sg_name (i : Nat) : SG K B (gName i) (gN i) := fun σ env ts te H v a e Q R h q => q _ _ (rel_set R h)
theorem rel_sets : ∀ {is : List Nat} {xs : List Dt} {vs : List V} {σ : L2.St} {env e : Env} {ts : List V} {te : List A} {H F : Hp} {O : Addr → Option Nat}, RelF K B F O σ env ts te H → DnAll K F vs xs → gTs is xs env te = some e →
    vs.length = is.length ∧ Rel K B ((is.zip vs).foldl (fun σ p => σ.set p.1 (some p.2)) σ) e ts te H
  | [], [], _, σ, env, e, ts, te, H, F, O, R, .nil, h => by cases h; exact ⟨rfl, F, O, R⟩
  | i :: is, x :: xs, _, σ, env, e, ts, te, H, F, O, R, .cons d ds, h => by
    unfold gTs at h
    cases q : gN i (.d x) env te with
    | none => rw [q] at h; cases h
    | some e1 =>
      rw [q] at h
      have R0 := R.push (a := .d x) d
      unfold gN at q
      split at q
      · rename_i c
        cases q
        unfold setOk at c
        rw [Bool.and_eq_true, Bool.and_eq_true, Bool.and_eq_true] at c
        obtain ⟨⟨⟨c1, c2⟩, c3⟩, c4⟩ := c
        have R1 := R0.asg (of_decide_eq_true c1) (fun o z => by rw [z] at c2; simp at c2) (by simpa using c3) (by simpa using c4)
        obtain ⟨l, R2⟩ := rel_sets (is := is) R1 ds h
        exact ⟨congrArg (· + 1) l, R2⟩
      · cases q
  | [], _ :: _, _, _, _, _, _, _, _, _, _, _, .cons _ _, h => by cases h
  | _ :: _, [], _, _, _, _, _, _, _, _, _, _, .nil, h => by cases h
/-- the names of a target, one by one -/
def gNames : List Nat → TGs
  | [] => gNil
  | i :: is => gCons (gName i) (gNames is)
theorem g_names : ∀ {is : List Nat} {vs : List V} {σ : L2.St} {H : Hp} {Q : L2.St → Hp → Prop}, vs.length = is.length → Q ((is.zip vs).foldl (fun σ p => σ.set p.1 (some p.2)) σ) H → gNames is vs σ H Q
  | [], [], _, _, _, _, q => ⟨rfl, q⟩
  | i :: is, v :: vs, σ, H, Q, h, q => ⟨v, vs, rfl, g_names (is := is) (Nat.succ.inj h) q⟩
  | [], _ :: _, _, _, _, h, _ => nomatch h
  | _ :: _, [], _, _, _, h, _ => nomatch h
theorem sg_tup (is : List Nat) {n : Nat} (hn : n = is.length) : SG K B (gTup K n (gNames is)) (gT is) := by
  intro σ env ts te H v a e Q R h q
  obtain ⟨F, O, R⟩ := R
  unfold gT at h
  cases c : a.tup? with
  | none => rw [c] at h; cases h
  | some xs =>
    rw [c] at h
    have h : gTs is xs env te = some e := h
    obtain ⟨p, vs, rfl, hT, _, d⟩ := cell_tup R R.tm.1 c
    obtain ⟨l, R'⟩ := rel_sets R.pop d h
    exact ⟨p, vs, rfl, hT, by rw [l, hn], g_names l (q _ _ R')⟩
theorem ss_asg {t : TE} {m : ME} {g : TG} {mg : MG} (h : SE K B W t m) (hg : SG K B g mg) : SS K B W (tAsg t g) (mAsg m mg) := by
  intro σ env ts te H D R p
  refine h.thS R p fun a e p v H' R' => ?_
  cases q : mg a e te with
  | none => simp only [q] at p; exact p.elim
  | some e' => simp only [q] at p; exact hg σ e ts te H' v a e' D.nx R' q p
theorem ss_drop {t : TE} {m : ME} (h : SE K B W t m) : SS K B W (tDrop t) (mDrop m) := by
  intro σ env ts te H D R p
  exact h.thS R p fun a e p v H' R' => p σ H' R'.pop
theorem ss_ret {t : TE} {m : ME} (h : SE K B W t m) : SS K B W (tRet t) (mRet m) := by
  intro σ env ts te H D R p
  exact h.thS R p fun a e p v H' R' => p v σ ts te H' R'
theorem ss_next : SS K B W tNext mNext := fun σ env ts te H D R p => p σ H R
theorem ss_never : SS K B W tNever mNever := fun σ env ts te H D R p => p
theorem ss_if {c : TT} {t u : TS} {mc : MT} {m n : MS} (hc : ST K B W c mc) (h1 : SS K B W t m) (h2 : SS K B W u n) : SS K B W (tIfS c t u) (mIfS mc m n) := by
  intro σ env ts te H D R p
  refine hc.thS R p fun b e p H' R' => ?_
  cases b with
  | true => rw [if_pos rfl]; exact h1 σ e ts te H' D R' p
  | false => rw [if_neg Bool.false_ne_true]; exact h2 σ e ts te H' D R' p
theorem ss_seq {t u : TS} {m n : MS} (h1 : SS K B W t m) (h2 : SS K B W u n) : SS K B W (tSeq t u) (mSeq m n) := by
  intro σ env ts te H D R p
  refine h1 σ env ts te H _ R ?_
  have p : PS' K B W ts te D ((m env te).th fun e => n e te) := p
  cases q : m env te with
  | nx e => rw [q] at p; exact fun σ' H' R' => h2 σ' e ts te H' D R' p
  | rt a e => rw [q] at p; exact p
  | bk e => rw [q] at p; exact p
  | ct e => rw [q] at p; exact p
  | ex x e => rw [q] at p; exact p
  | bad => rw [q] at p; exact p
/-- more temporaries -/
theorem PS'.push {ts us : List V} {te ue : List A} {D : Ends} (hl : us.length = ue.length) : ∀ {r : Fl}, PS' K B W ts te D r → PS' K B W (us ++ ts) (ue ++ te) D r
  | .nx e, p => fun σ H R => p σ H (R.popN hl)
  | .rt a e, p => p
  | .bk e, p => fun σ H R => p σ H (R.popN hl)
  | .ct e, p => fun σ H R => p σ H (R.popN hl)
  | .ex x e, p => fun σ cls d H zs F O R => by
    obtain ⟨O', R'⟩ := Tw.popN hl R
    exact p σ cls d H zs F O' R'
  | .bad, p => p
/-! ### while -/
def Fl.lp (r : Fl) (f : Env → Fl) : Fl := match r with
  | .nx e => f e
  | .ct e => f e
  | .bk e => .nx e
  | r => r
@[simp] theorem Fl.lp_nx (e : Env) (f : Env → Fl) : (Fl.nx e).lp f = f e := rfl
@[simp] theorem Fl.lp_rt (a : A) (e : Env) (f : Env → Fl) : (Fl.rt a e).lp f = .rt a e := rfl
@[simp] theorem Fl.lp_bk (e : Env) (f : Env → Fl) : (Fl.bk e).lp f = .nx e := rfl
@[simp] theorem Fl.lp_ct (e : Env) (f : Env → Fl) : (Fl.ct e).lp f = f e := rfl
@[simp] theorem Fl.lp_ex (x : Xc) (e : Env) (f : Env → Fl) : (Fl.ex x e).lp f = .ex x e := rfl
@[simp] theorem Fl.lp_bad (f : Env → Fl) : (Fl.bad).lp f = .bad := rfl
def iterW (c : MT) (b : MS) (te : List A) : Nat → Env → Fl
  | 0, _ => .bad
  | n + 1, env => (c env te).fl fun x e => if x = true then (b e te).lp (iterW c b te n) else .nx e
theorem iterW_mono {c : MT} {b : MS} {te : List A} : ∀ {n m : Nat} {env : Env}, n ≤ m → iterW c b te n env ≠ .bad → iterW c b te m env = iterW c b te n env
  | 0, _, _, _, h => absurd rfl h
  | n + 1, 0, _, h, _ => absurd h (Nat.not_succ_le_zero n)
  | n + 1, m + 1, env, hl, h => by
    unfold iterW at h ⊢
    cases q : c env te with
    | ex x e => rfl
    | bad => rfl
    | ok x e =>
      rw [q] at h
      simp only [Rs.fl_ok] at h ⊢
      cases x with
      | false => rfl
      | true =>
        simp only [if_true] at h ⊢
        cases z : b e te with
        | nx e' => rw [z] at h; exact iterW_mono (Nat.le_of_succ_le_succ hl) h
        | ct e' => rw [z] at h; exact iterW_mono (Nat.le_of_succ_le_succ hl) h
        | _ => rfl
open Classical in
noncomputable def mWhile (c : MT) (b : MS) : MS := fun env te => if h : ∃ n, iterW c b te n env ≠ .bad then iterW c b te h.choose env else .bad
theorem mWhile_of {c : MT} {b : MS} {te : List A} {env : Env} (n : Nat) {r : Fl} (h : iterW c b te n env = r) (hr : r ≠ .bad) : mWhile c b env te = r := by
  have ex : ∃ n, iterW c b te n env ≠ .bad := ⟨n, by rw [h]; exact hr⟩
  unfold mWhile
  rw [dif_pos ex]
  rcases Nat.le_total n ex.choose with z | z
  · rw [iterW_mono z (by rw [h]; exact hr), h]
  · rw [← iterW_mono z ex.choose_spec, h]
theorem mWhile_eq {c : MT} {b : MS} {te : List A} {env : Env} : mWhile c b env te = (c env te).fl fun x e => if x = true then (b e te).lp (fun e' => mWhile c b e' te) else .nx e := by
  have key : ∀ r, r ≠ .bad → (mWhile c b env te = r ↔ ((c env te).fl fun x e => if x = true then (b e te).lp (fun e' => mWhile c b e' te) else .nx e) = r) := by
    intro r hr
    have w1 : ∀ e', mWhile c b e' te = r → ∃ n, iterW c b te n e' = r := fun e' h => by
      unfold mWhile at h
      split at h
      · exact ⟨_, h⟩
      · exact absurd h.symm hr
    constructor
    · intro h
      obtain ⟨n, h⟩ := w1 env h
      cases n with
      | zero => exact absurd h.symm hr
      | succ n =>
        unfold iterW at h
        cases q : c env te with
        | ex x e => rw [q] at h; exact h
        | bad => rw [q] at h; exact h
        | ok x e =>
          rw [q] at h
          cases x with
          | false => exact h
          | true =>
            simp only [Rs.fl_ok, if_true] at h ⊢
            cases z : b e te with
            | nx e' => rw [z] at h; exact mWhile_of n h hr
            | ct e' => rw [z] at h; exact mWhile_of n h hr
            | rt _ _ => rw [z] at h; exact h
            | bk _ => rw [z] at h; exact h
            | ex _ _ => rw [z] at h; exact h
            | bad => rw [z] at h; exact h
    · intro h
      cases q : c env te with
      | ex x e => rw [q] at h; exact mWhile_of 1 (by unfold iterW; rw [q]; exact h) hr
      | bad => rw [q] at h; exact absurd h.symm hr
      | ok x e =>
        rw [q] at h
        cases x with
        | false => exact mWhile_of 1 (by unfold iterW; rw [q]; exact h) hr
        | true =>
          simp only [Rs.fl_ok, if_true] at h
          cases z : b e te with
          | nx e' =>
            rw [z] at h
            obtain ⟨n, h⟩ := w1 e' h
            exact mWhile_of (n + 1) (by unfold iterW; rw [q]; simp only [Rs.fl_ok, if_true]; rw [z]; exact h) hr
          | ct e' =>
            rw [z] at h
            obtain ⟨n, h⟩ := w1 e' h
            exact mWhile_of (n + 1) (by unfold iterW; rw [q]; simp only [Rs.fl_ok, if_true]; rw [z]; exact h) hr
          | rt _ _ => rw [z] at h; exact mWhile_of 1 (by unfold iterW; rw [q]; simp only [Rs.fl_ok, if_true]; rw [z]; exact h) hr
          | bk _ => rw [z] at h; exact mWhile_of 1 (by unfold iterW; rw [q]; simp only [Rs.fl_ok, if_true]; rw [z]; exact h) hr
          | ex _ _ => rw [z] at h; exact mWhile_of 1 (by unfold iterW; rw [q]; simp only [Rs.fl_ok, if_true]; rw [z]; exact h) hr
          | bad => rw [z] at h; exact absurd h.symm hr
  by_cases c1 : mWhile c b env te = .bad
  · rw [c1]
    refine (Classical.byContradiction fun z => ?_)
    have := (key _ (fun y => z y.symm)).mpr rfl
    exact z (c1.symm.trans this)
  · exact ((key _ c1).mp rfl).symm
theorem ss_while {c : TT} {t : TS} {mc : MT} {m : MS} (hc : ST K B W c mc) (h : SS K B W t m) : SS K B W (tWhile c t) (mWhile mc m) := by
  intro σ env ts te H D R p
  have ex : ∃ n, PS' K B W ts te D (iterW mc m te n env) := by
    unfold mWhile at p
    split at p
    · exact ⟨_, p⟩
    · exact p.elim
  obtain ⟨n, p⟩ := ex
  refine ⟨fun k σ H => ∃ env, Rel K B σ env ts te H ∧ PS' K B W ts te D (iterW mc m te k env), ⟨n, env, R, p⟩, ?_⟩
  rintro k σ1 H1 ⟨env1, R1, p1⟩
  cases k with
  | zero => exact p1.elim
  | succ k =>
    refine hc.thS R1 p1 fun b e p2 H2 R2 => ?_
    cases b with
    | false => rw [if_neg Bool.false_ne_true]; exact p2 σ1 H2 R2
    | true =>
      rw [if_pos rfl]
      refine ⟨fun σ' H' => ∃ env, Rel K B σ' env ts te H' ∧ PS' K B W ts te D (iterW mc m te k env), fun σ' H' z => ⟨k, Nat.lt_succ_self k, z⟩, ?_⟩
      refine h σ1 e ts te H2 _ R2 ?_
      have p3 : PS' K B W ts te D ((m e te).lp (iterW mc m te k)) := p2
      cases z : m e te with
      | nx e' => rw [z] at p3; exact fun σ' H' R' => ⟨e', R', p3⟩
      | ct e' => rw [z] at p3; exact fun σ' H' R' => ⟨e', R', p3⟩
      | bk e' => rw [z] at p3; exact p3
      | rt a e' => rw [z] at p3; exact p3
      | ex x e' => rw [z] at p3; exact p3
      | bad => rw [z] at p3; exact p3
end
end Tw

namespace Tw
open PySem PySem.Spec PyProof.Rows L2
/-! ### more on the relation -/
section
variable {K : KW} {B : Bs} {F F' H H' : Hp} {O O' : Addr → Option Nat} {σ σ' : List (Option V)} {env : Env} {ts : List V} {te : List A}
/-- more slots known -/
theorem RelF.sig (R : RelF K B F O σ env ts te H) (hl : σ'.length = σ.length) (h : ∀ (i : Nat) (w : V), σ[i]? = some (some w) → σ'[i]? = some (some w)) : RelF K B F O σ' env ts te H where
  ln := hl.trans R.ln
  sl := fun i a e => by
    obtain ⟨v, e1, c⟩ := R.sl i a e
    exact ⟨v, h i v e1, c.mono (Same.refl F) (fun _ z => ⟨z, rfl⟩) (fun _ _ => rfl) (fun i p w _ z => h i w z) (fun _ _ _ _ z => ⟨z, rfl⟩)⟩
  tm := R.tm.mono (Same.refl F) hl (fun _ _ _ _ z => ⟨z, rfl⟩) (fun i p w _ z => h i w z) (fun _ _ _ _ z => ⟨z, rfl⟩)
  sf := R.sf
  of := fun a j z => by rw [hl]; exact R.of a j z
  b1 := R.b1
  b2 := R.b2
  b3 := R.b3
  b5 := R.b5
  bi := R.bi
  tb := R.tb
/-- a slot forgotten -/
theorem RelF.clr (R : RelF K B F O σ env ts te H) {i : Nat} (nio : ∀ o, env[i]? ≠ some (some (.io o))) (nn : anyC (isRf i) env te = false) : RelF K B F O (σ.set i none) (env.set i none) ts te H := by
  have st : ∀ j w, j ≠ i → σ[j]? = some (some w) → (σ.set i none)[j]? = some (some w) := fun j w nj e => by rw [List.getElem?_set, if_neg (Ne.symm nj)]; exact e
  have ri : ∀ c, isRf i c = false → ∀ i' p, c = .rf i' p → i' ≠ i := fun c hc i' p e z => by
    rw [e, z] at hc
    simp [isRf] at hc
  refine ⟨by rw [List.length_set, List.length_set]; exact R.ln, fun j c e => ?_, ?_, R.sf, fun b j z => by rw [List.length_set]; exact R.of b j z, R.b1, R.b2, R.b3, R.b5, fun j hj => ?_, R.tb⟩
  · rw [List.getElem?_set] at e
    by_cases ji : i = j
    · subst ji
      rw [if_pos rfl] at e
      split at e <;> cases e
    · rw [if_neg ji] at e
      obtain ⟨u, e1, h⟩ := R.sl j c e
      exact ⟨u, st j u (Ne.symm ji) e1, h.mono (Same.refl F) (fun _ z => ⟨z, rfl⟩) (fun _ _ => rfl) (fun i' p w e' z => st i' w (ri c (anyC_env nn e) i' p e') z) (fun _ _ _ _ z => ⟨z, rfl⟩)⟩
  · exact R.tm.mono (Same.refl F) (List.length_set ..) (fun _ _ _ _ z => ⟨z, rfl⟩) (fun i' p w hm z => st i' w (ri _ (anyC_te nn hm) i' p rfl) z) (fun _ _ _ _ z => ⟨z, rfl⟩)
  · obtain ⟨o, ho⟩ := R.bi j hj
    exact ⟨o, by rw [List.getElem?_set, if_neg (fun z => nio o (by rw [z]; exact ho))]; exact ho⟩
/-- a thing of one's own that is handed up -/
theorem RelF.pushOwn (R : RelF K B F O σ env ts te H) (P : Addr → Prop) [DecidablePred P] (hP : ∀ a, P a → O a = none ∧ F a = none ∧ MutO (H a) ∧ B.H a = none) {v : V} {o : Ow} (h : OwO K F H P v o) :
    RelF K B F (fun a => if P a then some (σ.length + ts.length) else O a) σ env (v :: ts) (.own o :: te) H := by
  have k : ∀ j b, O b = some j → (fun a => if P a then some (σ.length + ts.length) else O a) b = some j ∧ H b = H b := fun j b z => ⟨(if_neg (fun p => by rw [(hP b p).1] at z; cases z)).trans z, rfl⟩
  refine ⟨R.ln, fun i a e => ?_, ⟨OwO.mono (own := P) (Same.refl F) (fun a p => ⟨if_pos p, (hP a p).2.2.2⟩) (fun _ _ => rfl) h, R.tm.mono (Same.refl F) rfl (fun j _ _ b z => k j b z) (fun _ _ _ _ z => z) (fun i _ _ b z => k i b z)⟩, R.sf, fun b j z => ?_, R.b1, R.b2, R.b3, R.b5, R.bi, R.tb⟩
  · obtain ⟨v, e1, c⟩ := R.sl i a e
    exact ⟨v, e1, c.mono (Same.refl F) (k i) (fun _ _ => rfl) (fun _ _ _ _ z => z) (fun i' _ _ b z => k i' b z)⟩
  · by_cases p : P b
    · have z' : some (σ.length + ts.length) = some j := (if_pos p).symm.trans z
      obtain ⟨_, h2, h3, h4⟩ := hP b p
      exact ⟨h2, h3, by rw [← Option.some.inj z', List.length_cons]; omega, .inl h4⟩
    · have z' : O b = some j := (if_neg p).symm.trans z
      obtain ⟨h1, h2, h3, h4⟩ := R.of b j z'
      exact ⟨h1, h2, by rw [List.length_cons]; omega, h4⟩
/-- what the top owns is changed -/
theorem RelF.mutT {v : V} {o o' : Ow} (R : RelF K B F O σ env (v :: ts) (.own o :: te) H) (hH : ∀ b, O b ≠ some (σ.length + ts.length) → H' b = H b) (hn : ∀ b, O b = some (σ.length + ts.length) → MutO (H' b))
    (new : OwO K F H' (fun a => O a = some (σ.length + ts.length) ∧ B.H a = none) v o') : RelF K B F O σ env (v :: ts) (.own o' :: te) H' := by
  have ln := R.ln
  have kb : ∀ j, j ≠ σ.length + ts.length → ∀ b, O b = some j → O b = some j ∧ H' b = H b := fun j nj b z => ⟨z, hH b (by rw [z]; exact fun y => nj (Option.some.inj y))⟩
  have rf : ∀ j w, σ[j]? = some (some w) → j ≠ σ.length + ts.length := fun j w e => by have := (List.getElem?_eq_some_iff.mp e).1; omega
  have cm : ∀ {j : Nat} {u : V} {c : A}, CellO K B F H O σ j u c → j ≠ σ.length + ts.length → CellO K B F H' O σ j u c := fun {j u c} h nj => by
    refine h.mono (Same.refl F) (kb j nj) (fun _ _ => rfl) (fun _ _ _ _ z => z) (fun i k e b z => ?_)
    rw [e] at h
    obtain ⟨w, hw, _⟩ := h
    exact kb i (rf i w hw) b z
  have tm : ∀ {us : List V} {ue : List A}, us.length ≤ ts.length → TmO K B F H O σ us ue → TmO K B F H' O σ us ue := fun {us} => by
    induction us with
    | nil => intro ue _ h; cases ue with
      | nil => trivial
      | cons => exact h.elim
    | cons u us ih =>
      intro ue hl h
      cases ue with
      | nil => exact h.elim
      | cons x ue =>
        rw [List.length_cons] at hl
        exact ⟨cm h.1 (by omega), ih (by omega) h.2⟩
  refine ⟨ln, fun j c e => ?_, ⟨new, tm (Nat.le_refl _) R.tm.2⟩, fun b u e => ?_, fun b j z => ?_, R.b1, fun b u hs ht e => ?_, R.b3, fun b e => ?_, R.bi, R.tb.1, R.tb.2.mono fun b o t z => by rw [hH b (by rw [R.noT t z]; exact nofun)]; exact z⟩
  · obtain ⟨u, e1, h⟩ := R.sl j c e
    exact ⟨u, e1, cm h (rf j u e1)⟩
  · by_cases hb : O b = some (σ.length + ts.length)
    · rw [(R.of b _ hb).1] at e
      cases e
    · rw [hH b hb]
      exact R.sf b u e
  · obtain ⟨h1, h2, h3, h4⟩ := R.of b j z
    refine ⟨h1, ?_, h3, h4⟩
    by_cases hb : O b = some (σ.length + ts.length)
    · exact hn b hb
    · rw [hH b hb]; exact h2
  · by_cases hb : O b = some (σ.length + ts.length)
    · rcases (R.of b _ hb).2.2.2 with y | y
      · rw [y] at e; cases e
      · rw [y.1] at hs; cases hs
    · rw [hH b hb]
      exact R.b2 b u hs ht e
  · by_cases hb : O b = some (σ.length + ts.length)
    · exact (hn b hb).1
    · rw [hH b hb]
      exact R.b5 b e
end
section
variable {K : KW} {B : Bs} {F H : Hp} {O : Addr → Option Nat} {σ : List (Option V)} {env : Env} {ts : List V} {te : List A}
/-- what lies under the top is dropped -/
theorem RelF.mid {v u : V} {a b : A} (R : RelF K B F O σ env (v :: u :: ts) (a :: b :: te) H) (na : isIo a = false) : RelF K B F (fun c => if O c = some (σ.length + ts.length + 1) then some (σ.length + ts.length) else if O c = some (σ.length + ts.length) then none else O c) σ env (v :: ts) (a :: te) H := by
  have ln := R.ln
  have k1 : ∀ j, j < σ.length + ts.length → ∀ b, O b = some j → (fun c => if O c = some (σ.length + ts.length + 1) then some (σ.length + ts.length) else if O c = some (σ.length + ts.length) then none else O c) b = some j ∧ H b = H b := fun j hj b z =>
    ⟨(if_neg (by rw [z]; exact fun y => by have := Option.some.inj y; omega)).trans ((if_neg (by rw [z]; exact fun y => by have := Option.some.inj y; omega)).trans z), rfl⟩
  have k2 : ∀ b, O b = some (σ.length + ts.length + 1) → (fun c => if O c = some (σ.length + ts.length + 1) then some (σ.length + ts.length) else if O c = some (σ.length + ts.length) then none else O c) b = some (σ.length + ts.length) ∧ H b = H b := fun b z => ⟨if_pos z, rfl⟩
  have rf : ∀ j w, σ[j]? = some (some w) → j < σ.length + ts.length := fun j w e => by have := (List.getElem?_eq_some_iff.mp e).1; omega
  have nest : ∀ {j : Nat} {u : V} {c : A}, CellO K B F H O σ j u c → ∀ i k, c = .rf i (some k) → ∀ b, O b = some i → (fun c => if O c = some (σ.length + ts.length + 1) then some (σ.length + ts.length) else if O c = some (σ.length + ts.length) then none else O c) b = some i ∧ H b = H b := fun {j u c} h i k e b z => by
    rw [e] at h
    obtain ⟨w, hw, _⟩ := h
    exact k1 i (rf i w hw) b z
  have cm : ∀ {j : Nat} {u : V} {c : A}, CellO K B F H O σ j u c → j < σ.length + ts.length → CellO K B F H (fun c => if O c = some (σ.length + ts.length + 1) then some (σ.length + ts.length) else if O c = some (σ.length + ts.length) then none else O c) σ j u c := fun {j u c} h nj =>
    h.mono (Same.refl F) (k1 j nj) (fun _ _ => rfl) (fun _ _ _ _ z => z) (nest h)
  have tm : ∀ {us : List V} {ue : List A}, us.length ≤ ts.length → TmO K B F H O σ us ue → TmO K B F H (fun c => if O c = some (σ.length + ts.length + 1) then some (σ.length + ts.length) else if O c = some (σ.length + ts.length) then none else O c) σ us ue := fun {us} => by
    induction us with
    | nil => intro ue _ h; cases ue with
      | nil => trivial
      | cons => exact h.elim
    | cons u us ih =>
      intro ue hl h
      cases ue with
      | nil => exact h.elim
      | cons x ue =>
        rw [List.length_cons] at hl
        exact ⟨cm h.1 (by omega), ih (by omega) h.2⟩
  refine ⟨ln, fun j c e => ?_, ⟨?_, tm (Nat.le_refl _) R.tm.2.2⟩, R.sf, fun b j z => ?_, R.b1, R.b2, R.b3, R.b5, R.bi, R.tb⟩
  · obtain ⟨u, e1, h⟩ := R.sl j c e
    exact ⟨u, e1, cm h (rf j u e1)⟩
  · have h := R.tm.1
    refine h.mono (Same.refl F) (fun b z => k2 b (by rw [List.length_cons] at z; exact z)) (fun o eo => ?_) (fun _ _ _ _ z => z) (nest h)
    rw [eo] at na
    simp [isIo] at na
  · by_cases h1 : O b = some (σ.length + ts.length + 1)
    · have z' : some (σ.length + ts.length) = some j := (if_pos h1).symm.trans z
      obtain ⟨q1, q2, q3, q4⟩ := R.of b _ h1
      refine ⟨q1, q2, by rw [← Option.some.inj z', List.length_cons]; omega, .inl ?_⟩
      rcases q4 with q4 | ⟨_, q4⟩
      · exact q4
      · obtain ⟨o', ho⟩ := R.bi _ q4
        have := (List.getElem?_eq_some_iff.mp ho).1
        omega
    · have z1 : (if O b = some (σ.length + ts.length) then none else O b) = some j := (if_neg h1).symm.trans z
      by_cases h2 : O b = some (σ.length + ts.length)
      · rw [if_pos h2] at z1
        cases z1
      · rw [if_neg h2] at z1
        obtain ⟨q1, q2, q3, q4⟩ := R.of b j z1
        refine ⟨q1, q2, ?_, q4⟩
        rw [List.length_cons, List.length_cons] at q3
        rw [List.length_cons]
        have : j ≠ σ.length + ts.length + 1 := fun y => h1 (by rw [z1, y])
        omega
theorem rel_mid {v : V} {a : A} (na : isIo a = false) : ∀ {us : List V} {ue : List A}, us.length = ue.length → Rel K B σ env (v :: (us ++ ts)) (a :: (ue ++ te)) H → Rel K B σ env (v :: ts) (a :: te) H
  | [], [], _, R => R
  | u :: us, b :: ue, h, R => by
    obtain ⟨F, O, R⟩ := R
    exact rel_mid na (Nat.succ.inj h) ⟨F, _, R.mid na⟩
  | [], _ :: _, h, _ => nomatch h
  | _ :: _, [], h, _ => nomatch h
end
/-! ### what is walked -/
/-- how an item stands: a pair that a walk makes is never kept -/
def kdQ : Dt → A
  | .tuple xs => .q xs
  | x => .d x
abbrev MI := Env → List A → Rs (List A × (Env → Option (List Dt)))
def WDk (K : KW) (B : Bs) (kd : Dt → A) (J : It) (as0 : List A) (vs0 : List V) (rd : Env → Option (List Dt)) : Prop := ∀ i σ env us ue ts te H xs, us.length = ue.length → Rel K B σ env (us ++ (vs0 ++ ts)) (ue ++ (as0 ++ te)) H → rd env = some xs →
  (i = xs.length → J.stop i H) ∧ ∀ x, xs[i]? = some x → J.go i H ∧ ∀ v H', J.yld i H v H' → Rel K B σ env (v :: (us ++ (vs0 ++ ts))) (kd x :: (ue ++ (as0 ++ te))) H'
def PI' (K : KW) (B : Bs) (W : WX) (kd : Dt → A) (σ : L2.St) (ts : List V) (te : List A) (R : It → Hp → Prop) : Rs (List A × (Env → Option (List Dt))) → Prop
  | .ok ar e => ∀ J vs0 H, vs0.length = ar.1.length → Rel K B σ e (vs0 ++ ts) (ar.1 ++ te) H → WDk K B kd J ar.1 vs0 ar.2 → R J H
  | .ex x e => XPost K B W σ ts te x e
  | .bad => False
def SI (K : KW) (B : Bs) (W : WX) (kd : Dt → A) (ti : TI) (mi : MI) : Prop := ∀ σ env ts te H R, Rel K B σ env ts te H → PI' K B W kd σ ts te R (mi env te) → ti σ H R
open Classical in
noncomputable def forM (kd : Dt → A) (rd : Env → Option (List Dt)) (xs0 : List Dt) (te : List A) (g : MG) (body : MS) : List Dt → Env → Fl
  | [], env => if rd env = some xs0 then .nx env else .bad
  | x :: r, env => if rd env = some xs0 then (match g (kd x) env te with
    | some e1 => (body e1 te).lp fun e2 => forM kd rd xs0 te g body r e2
    | none => .bad) else .bad
noncomputable def mFor (kd : Dt → A) (mi : MI) (g : MG) (body : MS) : MS := fun env te => (mi env te).fl fun ar e => match ar.2 e with
  | some xs => forM kd ar.2 xs (ar.1 ++ te) g body xs e
  | none => .bad
section
variable {K : KW} {B : Bs} {W : WX}
theorem ss_for {ti : TI} {mi : MI} {g : TG} {mg : MG} {t : TS} {m : MS} {kd : Dt → A} (hi : SI K B W kd ti mi) (hg : SG K B g mg) (h : SS K B W t m) : SS K B W (tFor ti g t) (mFor kd mi mg m) := by
  intro σ env ts te H D R p
  refine hi σ env ts te H _ R ?_
  have p : PS' K B W ts te D ((mi env te).fl fun ar e => match ar.2 e with | some xs => forM kd ar.2 xs (ar.1 ++ te) mg m xs e | none => .bad) := p
  cases q : mi env te with
  | ex x e => rw [q] at p; exact p σ
  | bad => rw [q] at p; exact p
  | ok ar e =>
    obtain ⟨as0, rd⟩ := ar
    rw [q] at p
    simp only [Rs.fl_ok] at p
    intro J vs0 H1 hl R1 wd
    cases q2 : rd e with
    | none => simp only [q2] at p; exact False.elim p
    | some xs =>
      simp only [q2] at p
      have p := PS'.push (us := vs0) (ue := as0) hl p
      refine ⟨fun i k σ H => ∃ env, Rel K B σ env (vs0 ++ ts) (as0 ++ te) H ∧ i ≤ xs.length ∧ k = xs.length - i ∧ PS' K B W (vs0 ++ ts) (as0 ++ te) D (forM kd rd xs (as0 ++ te) mg m (xs.drop i) env), ⟨_, e, R1, Nat.zero_le _, rfl, p⟩, ?_⟩
      rintro i k σ2 H2 ⟨env2, R2, li, rfl, p2⟩
      by_cases il : i < xs.length
      · rw [List.drop_eq_getElem_cons il] at p2
        unfold forM at p2
        split at p2
        · rename_i hrd
          obtain ⟨go, yl⟩ := (wd i σ2 env2 [] [] ts te H2 xs rfl R2 hrd).2 xs[i] (List.getElem?_eq_getElem il)
          refine .inr ⟨go, fun σ H => ∃ env, Rel K B σ env (vs0 ++ ts) (as0 ++ te) H ∧ PS' K B W (vs0 ++ ts) (as0 ++ te) D (forM kd rd xs (as0 ++ te) mg m (xs.drop (i + 1)) env), fun σ' H' ⟨env', R', p'⟩ => ⟨_, by omega, env', R', il, rfl, p'⟩, fun x H' hy => ?_⟩
          have R3 := yl x H' hy
          cases q3 : mg (kd xs[i]) env2 (as0 ++ te) with
          | none => simp only [q3] at p2; exact False.elim p2
          | some e1 =>
            simp only [q3] at p2
            refine hg σ2 env2 (vs0 ++ ts) (as0 ++ te) H' x _ e1 _ R3 q3 fun σ4 H4 R4 => ?_
            refine h σ4 e1 (vs0 ++ ts) (as0 ++ te) H4 _ R4 ?_
            cases z : m e1 (as0 ++ te) with
            | nx e' => rw [z] at p2; exact fun σ' H' R' => ⟨e', R', p2⟩
            | ct e' => rw [z] at p2; exact fun σ' H' R' => ⟨e', R', p2⟩
            | bk e' => rw [z] at p2; exact p2
            | rt a e' => rw [z] at p2; exact p2
            | ex x e' => rw [z] at p2; exact p2
            | bad => rw [z] at p2; exact p2
        · exact False.elim p2
      · have e1 : i = xs.length := by omega
        rw [List.drop_of_length_le (by omega)] at p2
        unfold forM at p2
        split at p2
        · rename_i hrd
          exact .inl ⟨(wd i σ2 env2 [] [] ts te H2 xs rfl R2 hrd).1 e1, p2 σ2 H2 R2⟩
        · exact False.elim p2
end
/-! ### comprehensions -/
def wipeE (env : Env) : List Nat → Env
  | [] => env
  | v :: vs => (wipeE env vs).set v none
def wipeOk (env : Env) (te : List A) : List Nat → Bool
  | [] => true
  | v :: vs => wipeOk env te vs && !anyC (isRf v) (wipeE env vs) te && (match (wipeE env vs)[v]? with
    | some (some (.io _)) => false
    | _ => true)
/-- nothing is raised -/
def Rs.noX {α : Type} (r : Rs α) : Rs α := match r with
  | .ex _ _ => .bad
  | r => r
@[simp] theorem Rs.noX_ok {α : Type} (a : α) (e : Env) : (Rs.ok a e).noX = .ok a e := rfl
@[simp] theorem Rs.noX_bad {α : Type} : (Rs.bad : Rs α).noX = .bad := rfl
open Classical in
noncomputable def lcM (kd : Dt → A) (rd : Env → Option (List Dt)) (xs0 : List Dt) (te : List A) (g : MG) (tt : MT) (el : ME) (vs : List Nat) : List Dt → List Dt → Env → Rs (List Dt)
  | [], acc, env => if rd env = some xs0 then .ok acc env else .bad
  | x :: r, acc, env => if rd env = some xs0 then (match g (kd x) env (.own (.l acc) :: te) with
    | some e1 => (tt e1 (.own (.l acc) :: te)).noX.bind fun b e2 => if b = true then (el e2 (.own (.l acc) :: te)).noX.bind fun a e3 => (match a with
        | .d y => if acc.length < sizeLine ∧ wipeOk e3 (.own (.l (acc ++ [y])) :: te) vs = true then lcM kd rd xs0 te g tt el vs r (acc ++ [y]) (wipeE e3 vs) else .bad
        | _ => .bad)
      else if wipeOk e2 (.own (.l acc) :: te) vs = true then lcM kd rd xs0 te g tt el vs r acc (wipeE e2 vs) else .bad
    | none => .bad) else .bad
noncomputable def mLc (kd : Dt → A) (mi : MI) (g : MG) (tt : MT) (el : ME) (vs : List Nat) : ME := fun env te => (mi env te).bind fun ar e => match ar.2 (wipeE e vs) with
  | some xs => if wipeOk e (.own (.l []) :: (ar.1 ++ te)) vs = true then (lcM kd ar.2 xs (ar.1 ++ te) g tt el vs xs [] (wipeE e vs)).bind fun ys e2 => .ok (.own (.l ys)) e2 else .bad
  | none => .bad
section
variable {K : KW} {B : Bs} {W : WX}
theorem rel_wipe {ts : List V} {te : List A} {H : Hp} : ∀ {vs : List Nat} {σ : L2.St} {env : Env}, Rel K B σ env ts te H → wipeOk env te vs = true → Rel K B (wipe σ vs) (wipeE env vs) ts te H
  | [], _, _, R, _ => R
  | v :: vs, σ, env, R, h => by
    unfold wipeOk at h
    rw [Bool.and_eq_true, Bool.and_eq_true] at h
    obtain ⟨⟨h1, h2⟩, h3⟩ := h
    obtain ⟨F, O, R⟩ := rel_wipe R h1
    refine ⟨F, O, R.clr (fun o z => ?_) (by simpa using h2)⟩
    rw [z] at h3
    simp at h3
theorem rel_unwipe {ts : List V} {te : List A} {H : Hp} {vs : List Nat} {σ : L2.St} {env : Env} (R : Rel K B (wipe σ vs) env ts te H) : Rel K B σ env ts te H := by
  obtain ⟨F, O, R⟩ := R
  exact ⟨F, O, R.sig (wipe_length σ vs).symm fun i w e => (wipe_some e).1⟩
/-- a target within a comprehension -/
def SGw (K : KW) (B : Bs) (vs : List Nat) (g : TG) (mg : MG) : Prop := ∀ σ env ts te H v a e Q, Rel K B σ env (v :: ts) (a :: te) H → mg a env te = some e → (∀ σ' H', wipe σ' vs = wipe σ vs → Rel K B σ' e ts te H' → Q σ' H') → g v σ H Q
theorem wipe_set : ∀ {vs : List Nat} {σ : L2.St} {i : Nat} {x : Option V}, i ∈ vs → wipe (σ.set i x) vs = wipe σ vs
  | v :: vs, σ, i, x, h => by
    unfold wipe
    by_cases hv : i ∈ vs
    · rw [wipe_set hv]
    · have e : i = v := by
        rcases List.mem_cons.mp h with e | e
        · exact e
        · exact absurd e hv
      subst e
      have z : ∀ {vs : List Nat} {σ : L2.St}, (wipe (σ.set i x) vs).set i none = (wipe σ vs).set i none := by
        intro vs
        induction vs with
        | nil => intro σ; unfold wipe; rw [List.set_set]
        | cons u us ih =>
          intro σ
          unfold wipe
          by_cases hu : u = i
          · subst hu
            rw [List.set_set, List.set_set]
            exact ih
          · rw [List.set_comm _ _ hu, List.set_comm _ _ hu, ih]
      exact z
theorem wipe_wipe : ∀ {vs us : List Nat} {σ : L2.St}, (∀ v ∈ us, v ∈ vs) → wipe (wipe σ us) vs = wipe σ vs
  | vs, [], _, _ => rfl
  | vs, u :: us, σ, h => by
    show wipe ((wipe σ us).set u none) vs = _
    rw [wipe_set (h u List.mem_cons_self)]
    exact wipe_wipe fun v hv => h v (List.mem_cons_of_mem _ hv)
theorem sgw_name {vs : List Nat} (i : Nat) (hi : vs.contains i = true) : SGw K B vs (gName i) (gN i) := fun σ env ts te H v a e Q R h q => q _ _ (wipe_set (by simpa using hi)) (rel_set R h)
theorem wipe_sets {vs : List Nat} : ∀ {is : List Nat} {us : List V} {σ : L2.St}, (∀ i ∈ is, i ∈ vs) → wipe ((is.zip us).foldl (fun σ p => σ.set p.1 (some p.2)) σ) vs = wipe σ vs
  | [], _, _, _ => rfl
  | _ :: _, [], _, _ => rfl
  | i :: is, u :: us, σ, h => by
    show wipe ((is.zip us).foldl _ (σ.set i (some u))) vs = _
    rw [wipe_sets (fun j hj => h j (List.mem_cons_of_mem _ hj)), wipe_set (h i List.mem_cons_self)]
theorem sgw_tup {vs : List Nat} (is : List Nat) {n : Nat} (hn : n = is.length) (hi : is.all vs.contains = true) : SGw K B vs (gTup K n (gNames is)) (gT is) := by
  intro σ env ts te H v a e Q R h q
  obtain ⟨F, O, R⟩ := R
  unfold gT at h
  cases c : a.tup? with
  | none => rw [c] at h; cases h
  | some xs =>
    rw [c] at h
    have h : gTs is xs env te = some e := h
    obtain ⟨p, us, rfl, hT, _, d⟩ := cell_tup R R.tm.1 c
    obtain ⟨l, R'⟩ := rel_sets R.pop d h
    exact ⟨p, us, rfl, hT, by rw [l, hn], g_names l (q _ _ (wipe_sets fun i hm => by simpa using List.all_eq_true.mp hi i hm) R')⟩
theorem rel_app {σ : L2.St} {env : Env} {ts : List V} {te : List A} {H : Hp} {D : Addr} {acc : List Dt} {y : V} {x : Dt} (R : Rel K B σ env (y :: .ref D :: ts) (.d x :: .own (.l acc) :: te) H) :
    ∃ us, H D = some (.lst us) ∧ us.length = acc.length ∧ Rel K B σ env (.ref D :: ts) (.own (.l (acc ++ [x])) :: te) (upd H D (.lst (us ++ [y]))) := by
  obtain ⟨F, O, R⟩ := R
  have hy : Dn K F y x := R.tm.1
  have R1 := R.pop
  obtain ⟨a, us, e, o, h1, d⟩ := R1.tm.1
  cases e
  refine ⟨us, h1, d.length, F, _, R1.mutT (o' := .l (acc ++ [x])) (fun b nb => upd_ne (fun z => nb (by rw [z]; exact o.1))) (fun b hb => ?_) ⟨D, us ++ [y], rfl, o, upd_same, d.app (.cons hy .nil)⟩⟩
  by_cases hb2 : b = D
  · rw [hb2, upd_same]; exact mutO_lst _
  · rw [upd_ne hb2]; exact (R1.of b _ hb).2.1
/-- nothing may be raised -/
def W0 : WX := fun _ _ _ _ => False
theorem se_lc {ti : TI} {mi : MI} {g : TG} {mg : MG} {tt : TT} {mt : MT} {t : TE} {m : ME} {vs : List Nat} {kd : Dt → A} (hi : SI K B W kd ti mi) (hg : SGw K B vs g mg) (ht : ST K B W0 tt mt) (h : SE K B W0 t m) : SE K B W (tLc ti g tt t vs) (mLc kd mi mg mt m vs) := by
  intro σ env ts te H Q R p
  refine hi σ env ts te H _ R ?_
  have p : PE' K B W σ ts te Q ((mi env te).bind fun ar e => match ar.2 (wipeE e vs) with
    | some xs => if wipeOk e (.own (.l []) :: (ar.1 ++ te)) vs = true then (lcM kd ar.2 xs (ar.1 ++ te) mg mt m vs xs [] (wipeE e vs)).bind fun ys e2 => .ok (.own (.l ys)) e2 else .bad
    | none => .bad) := p
  cases q : mi env te with
  | ex x e => rw [q] at p; exact p
  | bad => rw [q] at p; exact p
  | ok ar e =>
    obtain ⟨as0, rd⟩ := ar
    rw [q] at p
    simp only [Rs.bind_ok] at p
    intro J vs0 H1 hl R1 wd D nD
    cases q2 : rd (wipeE e vs) with
    | none => simp only [q2] at p; exact False.elim p
    | some xs =>
      simp only [q2] at p
      by_cases wok : wipeOk e (.own (.l []) :: (as0 ++ te)) vs = true
      case neg => rw [if_neg wok] at p; exact False.elim p
      rw [if_pos wok] at p
      obtain ⟨F1, O1, R1⟩ := R1
      have R1' : Rel K B σ e (.ref D :: (vs0 ++ ts)) (.own (.l []) :: (as0 ++ te)) (upd H1 D (.lst [])) := R1.pushL nD .nil
      have R2 := rel_wipe R1' wok
      refine ⟨fun i k H => ∃ env acc, Rel K B (wipe σ vs) env (.ref D :: (vs0 ++ ts)) (.own (.l acc) :: (as0 ++ te)) H ∧ i ≤ xs.length ∧ k = xs.length - i ∧ PE' K B W σ ts te Q ((lcM kd rd xs (as0 ++ te) mg mt m vs (xs.drop i) acc env).bind fun ys e2 => .ok (.own (.l ys)) e2),
        ⟨_, _, _, R2, Nat.zero_le _, rfl, p⟩, ?_⟩
      rintro i k H2 ⟨env2, acc, R2, li, rfl, p2⟩
      by_cases il : i < xs.length
      · rw [List.drop_eq_getElem_cons il] at p2
        unfold lcM at p2
        split at p2
        · rename_i hrd
          obtain ⟨go, yl⟩ := (wd i (wipe σ vs) env2 [.ref D] [.own (.l acc)] ts te H2 xs rfl R2 hrd).2 xs[i] (List.getElem?_eq_getElem il)
          refine .inr ⟨go, fun H => ∃ env acc, Rel K B (wipe σ vs) env (.ref D :: (vs0 ++ ts)) (.own (.l acc) :: (as0 ++ te)) H ∧ PE' K B W σ ts te Q ((lcM kd rd xs (as0 ++ te) mg mt m vs (xs.drop (i + 1)) acc env).bind fun ys e2 => .ok (.own (.l ys)) e2), fun H' ⟨env', acc', R', p'⟩ => ⟨_, by omega, env', acc', R', il, rfl, p'⟩, fun x H' hy => ?_⟩
          -- the item on top of the new list
          have R3 : Rel K B (wipe σ vs) env2 (x :: .ref D :: (vs0 ++ ts)) (kd xs[i] :: .own (.l acc) :: (as0 ++ te)) H' := yl x H' hy
          cases q3 : mg (kd xs[i]) env2 (.own (.l acc) :: (as0 ++ te)) with
          | none => simp only [q3] at p2; exact False.elim p2
          | some e1 =>
            simp only [q3] at p2
            refine hg (wipe σ vs) env2 _ _ H' x _ e1 _ R3 q3 fun σ4 H4 hw R4 => ⟨hw.trans (wipe_wipe fun _ z => z), ?_⟩
            rw [wipe_wipe fun _ z => z] at hw
            refine ht σ4 e1 _ _ H4 _ R4 ?_
            cases z : mt e1 (.own (.l acc) :: (as0 ++ te)) with
            | ex x e' => rw [z] at p2; exact False.elim p2
            | bad => rw [z] at p2; exact False.elim p2
            | ok b e2 =>
              rw [z] at p2
              intro H5 R5
              cases b with
              | false =>
                simp only [Rs.noX_ok, Rs.bind_ok, Bool.false_eq_true, if_false] at p2 ⊢
                split at p2
                · rename_i w2
                  refine ⟨_, acc, ?_, p2⟩
                  rw [← hw]
                  exact rel_wipe R5 w2
                · exact False.elim p2
              | true =>
                simp only [Rs.noX_ok, Rs.bind_ok, if_true] at p2 ⊢
                refine h σ4 e2 _ _ H5 _ R5 ?_
                cases z2 : m e2 (.own (.l acc) :: (as0 ++ te)) with
                | ex x e' => rw [z2] at p2; exact False.elim p2
                | bad => rw [z2] at p2; exact False.elim p2
                | ok a e3 =>
                  rw [z2] at p2
                  intro y H6 R6
                  cases a with
                  | d x0 =>
                    simp only [Rs.noX_ok, Rs.bind_ok] at p2
                    split at p2
                    · rename_i w3
                      obtain ⟨us, e6, l6, R7⟩ := rel_app R6
                      refine ⟨us, e6, by rw [l6]; exact w3.1, _, acc ++ [x0], ?_, p2⟩
                      rw [← hw]
                      exact rel_wipe (te := .own (.l (acc ++ [x0])) :: (as0 ++ te)) R7 w3.2
                    · exact False.elim p2
                  | own _ => exact False.elim p2
                  | io _ => exact False.elim p2
                  | rf _ _ => exact False.elim p2
                  | sc _ => exact False.elim p2
                  | q _ => exact False.elim p2
                  | lk _ => exact False.elim p2
                  | xr _ => exact False.elim p2
        · exact False.elim p2
      · have e1 : i = xs.length := by omega
        rw [List.drop_of_length_le (by omega)] at p2
        unfold lcM at p2
        split at p2
        · rename_i hrd
          refine .inl ⟨(wd i (wipe σ vs) env2 [.ref D] [.own (.l acc)] ts te H2 xs rfl R2 hrd).1 e1, ?_⟩
          exact p2 _ _ (rel_mid rfl hl (rel_unwipe R2))
        · exact False.elim p2
end
end Tw

namespace Tw
open PySem PySem.Spec PyProof.Rows L2
/-! ### defs as functions of values -/
inductive DRs where
  | ok (r : A) (ios : List A)
  | ex (x : Xc) (ios : List A)
  | bad
abbrev DF := List A → DRs
def backA (a : A) (c : Option A) : A := match a, c with
  | .io _, some c => c
  | a, _ => a
def backs : List A → Env → List A
  | [], _ => []
  | a :: as, [] => a :: backs as []
  | a :: as, c :: e => backA a c :: backs as e
def retA (e : Env) : A → Option A
  | .d x => some (.d x)
  | .own o => some (.own o)
  | .rf i none => match e[i]? with
    | some (some (.own o)) => some (.own o)
    | _ => none
  | _ => none
def endM (as : List A) : Fl → DRs
  | .nx e => .ok (.d .none) (backs as e)
  | .rt a e => match retA e a with
    | some r => .ok r (backs as e)
    | none => .bad
  | .ex x e => .ex x (backs as e)
  | _ => .bad
def runM (n : Nat) (m : MS) : DF := fun as => endM as (m (as.map some ++ List.replicate (n - as.length) none) [])
def backO (a : A) (c : Option (Option A)) : A := match c with
  | some c => backA a c
  | none => a
theorem backs_get : ∀ (as : List A) (e : Env) (i : Nat), (backs as e)[i]? = as[i]?.map fun a => backO a e[i]?
  | [], _, _ => by simp [backs]
  | a :: as, [], 0 => by simp [backs, backO]
  | a :: as, [], i + 1 => by
    have := backs_get as [] i
    simp [backs] at this ⊢
    exact this
  | a :: as, c :: e, 0 => by simp [backs, backO]
  | a :: as, c :: e, i + 1 => by
    have := backs_get as e i
    simp [backs] at this ⊢
    exact this
/-- what may be handed over -/
def KdA (io : Nat → Bool) (as : List A) : Prop := ∀ i a, as[i]? = some a → (∃ x, a = .d x) ∨ (∃ ns, a = .sc ns) ∨ ((∃ o, a = .io o) ∧ io i = true)
def CellR (K : KW) (F H : Hp) (own : Addr → Prop) (v : V) : A → Prop
  | .d x => Dn K F v x
  | .own o => OwO K F H own v o
  | _ => False
def PD (K : KW) (B : Bs) (Q : VK) (E : XK) : DRs → Prop
  | .ok r ios => ∀ F O v H, RelF K B F O (B.vs.map some) (ios.map some) [v] [r] H → CellR K F H (fun a => O a = some B.vs.length ∧ B.H a = none) v r → Q v H
  | .ex x ios => ∀ cls d H us F O, RelF K B F O (B.vs.map some) (ios.map some) [] [] H → DnAll K F us (x.fs.map (·.2)) → XIs K x us cls d F → E cls d H
  | .bad => False
/-- a def's promise by its function -/
def spM (K : KW) (f : DF) : Sp := fun vs H Q E => ∃ F O as S io, vs.length = as.length ∧ KdA io as ∧ RelF K ⟨H, F, S, vs, io, (0, .none, none)⟩ F O (vs.map some) (as.map some) [] [] H ∧ PD K ⟨H, F, S, vs, io, (0, .none, none)⟩ Q E (f as)
/-- the same, where more is known of the beginning -/
def spMZ (K : KW) (Z : Bs → Prop) (f : DF) : Sp := fun vs H Q E => ∃ F O as S io, Z ⟨H, F, S, vs, io, (0, .none, none)⟩ ∧ vs.length = as.length ∧ KdA io as ∧ RelF K ⟨H, F, S, vs, io, (0, .none, none)⟩ F O (vs.map some) (as.map some) [] [] H ∧ PD K ⟨H, F, S, vs, io, (0, .none, none)⟩ Q E (f as)
/-- the same over a heap that has what is known -/
def spMF (K : KW) (F0 : Hp) (f : DF) : Sp := spMZ K (fun B => Same F0 B.F) f
theorem spMZ.sp {K : KW} {Z : Bs → Prop} {f : DF} {vs : List V} {H : Hp} {Q : VK} {E : XK} (h : spMZ K Z f vs H Q E) : spM K f vs H Q E := by
  obtain ⟨F, O, as, S, io, _, h⟩ := h
  exact ⟨F, O, as, S, io, h⟩
section
variable {K : KW} {B : Bs} {F H : Hp} {O : Addr → Option Nat} {σ : List (Option V)} {env : Env}
/-- further slots without a value -/
theorem RelF.pad (R : RelF K B F O σ env [] [] H) (n : Nat) : RelF K B F O (σ ++ List.replicate n none) (env ++ List.replicate n none) [] [] H where
  ln := by rw [List.length_append, List.length_append, R.ln, List.length_replicate, List.length_replicate]
  sl := fun i a e => by
    have il : i < env.length := by
      refine Classical.byContradiction fun z => ?_
      rw [List.getElem?_append_right (by omega), List.getElem?_replicate] at e
      split at e <;> cases e
    rw [List.getElem?_append_left il] at e
    obtain ⟨v, e1, c⟩ := R.sl i a e
    refine ⟨v, by rw [List.getElem?_append_left (by rw [R.ln]; exact il)]; exact e1, c.mono (Same.refl F) (fun _ z => ⟨z, rfl⟩) (fun _ _ => rfl) (fun i p w _ z => ?_) (fun _ _ _ _ z => ⟨z, rfl⟩)⟩
    rw [List.getElem?_append_left (List.getElem?_eq_some_iff.mp z).1]
    exact z
  tm := trivial
  sf := R.sf
  of := fun a j z => by
    obtain ⟨h1, h2, h3, h4⟩ := R.of a j z
    exact ⟨h1, h2, by rw [List.length_append]; simp at h3 ⊢; omega, h4⟩
  b1 := R.b1
  b2 := R.b2
  b3 := R.b3
  b5 := R.b5
  bi := fun i hi => by
    obtain ⟨o, ho⟩ := R.bi i hi
    exact ⟨o, by rw [List.getElem?_append_left (List.getElem?_eq_some_iff.mp ho).1]; exact ho⟩
  tb := R.tb
/-- the end of a def: what the caller sees -/
theorem rel_fin {O0 : Addr → Option Nat} {H0 F0 : Hp} {as : List A} {ts : List V} {te : List A} (R0 : RelF K B F0 O0 (B.vs.map some) (as.map some) [] [] H0) (hF0 : Same F0 F) (kd : KdA B.io as) (R : RelF K B F O σ env ts te H) {v : V} {r : A} (jr : Nat) (hjr : B.io jr = false)
    (hr : CellR K F H (fun a => O a = some jr ∧ B.H a = none) v r) : ∃ O', RelF K B F O' (B.vs.map some) ((backs as env).map some) [v] [r] H ∧ CellR K F H (fun a => O' a = some B.vs.length ∧ B.H a = none) v r := by
  have ln : B.vs.length = as.length := by have := R0.ln; rw [List.length_map, List.length_map] at this; exact this
  have iol : ∀ i, B.io i = true → i < as.length := fun i hi => by
    obtain ⟨o, ho⟩ := R0.bi i hi
    have := (List.getElem?_eq_some_iff.mp ho).1
    rw [List.length_map] at this
    exact this
  have bl : (backs as env).length = as.length := by
    have : ∀ (as : List A) (e : Env), (backs as e).length = as.length := by
      intro as
      induction as with
      | nil => intro e; rfl
      | cons a as ih =>
        intro e
        cases e with
        | nil => exact congrArg (· + 1) (ih [])
        | cons c e => exact congrArg (· + 1) (ih e)
    exact this as env
  let O' : Addr → Option Nat := fun a => if O a = some jr then some B.vs.length else match O a with
    | some j => if B.io j = true then some j else none
    | none => none
  have oj : ∀ a, O a = some jr → O' a = some B.vs.length := fun a z => if_pos z
  have oi : ∀ a j, O a = some j → B.io j = true → O' a = some j := fun a j z hi => by
    have nj : ¬ O a = some jr := by
      rw [z]
      intro y
      rw [Option.some.inj y, hjr] at hi
      cases hi
    show (if O a = some jr then some B.vs.length else match O a with | some j => if B.io j = true then some j else none | none => none) = some j
    rw [if_neg nj, z]
    exact if_pos hi
  have oinv : ∀ a j, O' a = some j → (O a = some jr ∧ j = B.vs.length) ∨ (O a = some j ∧ B.io j = true) := fun a j z => by
    have z : (if O a = some jr then some B.vs.length else match O a with | some j => if B.io j = true then some j else none | none => none) = some j := z
    by_cases c : O a = some jr
    · rw [if_pos c] at z
      exact .inl ⟨c, (Option.some.inj z).symm⟩
    · rw [if_neg c] at z
      cases q : O a with
      | none => rw [q] at z; cases z
      | some k =>
        rw [q] at z
        have z : (if B.io k = true then some k else none) = some j := z
        split at z
        · rename_i h
          cases z
          exact .inr ⟨rfl, h⟩
        · cases z
  have hr' : CellR K F H (fun a => O' a = some B.vs.length ∧ B.H a = none) v r := by
    cases r with
    | d x => exact hr
    | own o => exact OwO.mono (own := fun a => O a = some jr ∧ B.H a = none) (Same.refl F) (fun a z => ⟨oj a z.1, z.2⟩) (fun _ _ => rfl) hr
    | _ => exact hr.elim
  refine ⟨O', ⟨by rw [List.length_map, List.length_map, bl, ln], fun i a e => ?_, ⟨?_, trivial⟩, R.sf, fun a j z => ?_, R.b1, R.b2, R.b3, R.b5, fun i hi => ?_, R.tb⟩, hr'⟩
  · rw [List.getElem?_map, backs_get] at e
    cases q : as[i]? with
    | none => rw [q] at e; cases e
    | some a0 =>
      rw [q] at e
      obtain ⟨v0, hv0, c0⟩ := R0.sl i a0 (by rw [List.getElem?_map, q]; rfl)
      refine ⟨v0, hv0, ?_⟩
      rcases kd i a0 q with ⟨x, rfl⟩ | ⟨ns, rfl⟩ | ⟨⟨o, rfl⟩, hi⟩
      · have e2 : A.d x = a := by
          cases z : env[i]? with
          | none => rw [z] at e; exact Option.some.inj (Option.some.inj e)
          | some c => rw [z] at e; exact Option.some.inj (Option.some.inj e)
        subst e2
        exact Dn.same hF0 c0
      · have e2 : A.sc ns = a := by
          cases z : env[i]? with
          | none => rw [z] at e; exact Option.some.inj (Option.some.inj e)
          | some c => rw [z] at e; exact Option.some.inj (Option.some.inj e)
        subst e2
        obtain ⟨p, e3, h3⟩ := c0
        exact ⟨p, e3, Same.sqL hF0 h3⟩
      · obtain ⟨o', ho'⟩ := R.bi i hi
        rw [ho'] at e
        have e2 : A.io o' = a := Option.some.inj (Option.some.inj e)
        subst e2
        obtain ⟨w, hw, c⟩ := R.sl i _ ho'
        have e3 : v0 = w := by
          have h1 := c.2
          rw [List.getElem?_map] at hv0
          rw [h1] at hv0
          exact (Option.some.inj (Option.some.inj hv0)).symm
        subst e3
        exact ⟨OwO.mono (own := fun a => O a = some i) (Same.refl F) (fun a z => oi a i z hi) (fun _ _ => rfl) c.1, c.2⟩
  · show CellO K B F H O' (B.vs.map some) ((B.vs.map some).length + ([] : List V).length) v r
    rw [List.length_map]
    cases r with
    | d x => exact hr
    | own o => exact hr'
    | _ => exact hr.elim
  · rw [List.length_map]
    rcases oinv a j z with ⟨z1, rfl⟩ | ⟨z1, hi⟩
    · obtain ⟨h1, h2, h3, h4⟩ := R.of a _ z1
      refine ⟨h1, h2, Nat.lt_succ_self _, .inl ?_⟩
      rcases h4 with h4 | ⟨_, h4⟩
      · exact h4
      · rw [hjr] at h4; cases h4
    · obtain ⟨h1, h2, h3, h4⟩ := R.of a _ z1
      refine ⟨h1, h2, ?_, h4⟩
      have := iol j hi
      simp
      omega
  · obtain ⟨o, ho⟩ := R.bi i hi
    refine ⟨o, ?_⟩
    rw [List.getElem?_map, backs_get, ho]
    have il := iol i hi
    rw [List.getElem?_eq_getElem il]
    have hk := kd i as[i] (List.getElem?_eq_getElem il)
    rcases hk with ⟨x, e⟩ | ⟨ns, e⟩ | ⟨⟨o', e⟩, _⟩
    · obtain ⟨o2, ho2⟩ := R0.bi i hi
      rw [List.getElem?_map, List.getElem?_eq_getElem il, e] at ho2
      cases ho2
    · obtain ⟨o2, ho2⟩ := R0.bi i hi
      rw [List.getElem?_map, List.getElem?_eq_getElem il, e] at ho2
      cases ho2
    · rw [e]
      rfl
/-- from a body's mirror to the def's promise -/
theorem pure_of1Z {Z : Bs → Prop} {t : TS} {m : MS} {N : List Str} (vs : List V) (H : Hp) (Q : VK) (E : XK) (h : ∀ B, Z B → SS K B (fun cls d _ H => E cls d H) t m) (p : spMZ K Z (runM N.length m) vs H Q E) : t { nx := fun _ H' => Q .non H', rt := Q } (start N vs) H := by
  obtain ⟨F, O, as, S, io, hf, hl, kd, R, p⟩ := p
  refine h ⟨H, F, S, vs, io, (0, .none, none)⟩ hf (start N vs) (as.map some ++ List.replicate (N.length - as.length) none) [] [] H _ ?_ ?_
  · refine ⟨F, O, ?_⟩
    unfold L2.start
    rw [hl]
    exact R.pad _
  · have p : PD K ⟨H, F, S, vs, io, (0, .none, none)⟩ Q E (endM as (m (as.map some ++ List.replicate (N.length - as.length) none) [])) := p
    have fin : ∀ {F' : Hp} {O' : Addr → Option Nat} {σ : List (Option V)} {e : Env} {ts : List V} {te : List A} {H' : Hp} {v : V} {r : A} (R' : RelF K ⟨H, F, S, vs, io, (0, .none, none)⟩ F' O' σ e ts te H') (jr : Nat) (hjr : io jr = false) (hr : CellR K F' H' (fun a => O' a = some jr ∧ H a = none) v r) (p : PD K ⟨H, F, S, vs, io, (0, .none, none)⟩ Q E (.ok r (backs as e))), Q v H' := by
      intro F' O' σ e ts te H' v r R' jr hjr hr p
      obtain ⟨O2, R2, c2⟩ := rel_fin R R'.b1 kd R' jr hjr hr
      exact p F' O2 v H' R2 c2
    cases q : m (as.map some ++ List.replicate (N.length - as.length) none) [] with
    | nx e =>
      rw [q] at p
      rintro σ H' ⟨F', O', R'⟩
      refine fin R' σ.length ?_ (r := .d .none) .non p
      cases c : io σ.length with
      | false => rfl
      | true =>
        obtain ⟨o, ho⟩ := R'.bi _ c
        have := (List.getElem?_eq_some_iff.mp ho).1
        have := R'.ln
        omega
    | rt a e =>
      rw [q] at p
      rintro v σ ts' te' H' ⟨F', O', R'⟩
      have p : PD K ⟨H, F, S, vs, io, (0, .none, none)⟩ Q E (match retA e a with | some r => .ok r (backs as e) | none => .bad) := p
      have tj : io (σ.length + ts'.length) = false := by
        cases c : io (σ.length + ts'.length) with
        | false => rfl
        | true =>
          obtain ⟨o, ho⟩ := R'.bi _ c
          have := (List.getElem?_eq_some_iff.mp ho).1
          have := R'.ln
          omega
      cases a with
      | d x => exact fin R' _ tj (r := .d x) R'.tm.1 p
      | own o => exact fin R' _ tj (r := .own o) R'.tm.1 p
      | io o => exact False.elim p
      | sc o => exact False.elim p
      | q o => exact False.elim p
      | lk o => exact False.elim p
      | xr o => exact False.elim p
      | rf i pt =>
        cases pt with
        | some k => exact False.elim p
        | none =>
          cases q2 : e[i]? with
          | none => simp only [retA, q2] at p; exact False.elim p
          | some c =>
            cases c with
            | none => simp only [retA, q2] at p; exact False.elim p
            | some c =>
              cases c with
              | own o =>
                simp only [retA, q2] at p
                obtain ⟨w, hw, e1⟩ := R'.tm.1
                have e1 : v = w := e1
                obtain ⟨w', hw', c'⟩ := R'.sl i _ q2
                rw [hw] at hw'
                cases hw'
                subst e1
                refine fin R' i ?_ (r := .own o) c' p
                cases c : io i with
                | false => rfl
                | true =>
                  obtain ⟨o, ho⟩ := R'.bi _ c
                  rw [q2] at ho
                  cases ho
              | _ => simp only [retA, q2] at p; exact False.elim p
    | ex x e =>
      rw [q] at p
      intro σ cls d H' us F' O' R' du xi
      have jf : io (σ.length) = false := by
        cases c : io σ.length with
        | false => rfl
        | true =>
          obtain ⟨o, ho⟩ := R'.bi _ c
          have := (List.getElem?_eq_some_iff.mp ho).1
          have := R'.ln
          omega
      obtain ⟨O2, R2, _⟩ := rel_fin R R'.b1 kd R' σ.length jf (v := .non) (r := .d .none) .non
      exact p cls d H' us F' _ R2.pop du xi
    | bk e => rw [q] at p; exact False.elim p
    | ct e => rw [q] at p; exact False.elim p
    | bad => rw [q] at p; exact False.elim p
theorem pure_of1 {t : TS} {m : MS} {N : List Str} (vs : List V) (H : Hp) (Q : VK) (E : XK) (h : ∀ B, SS K B (fun cls d _ H => E cls d H) t m) (p : spM K (runM N.length m) vs H Q E) : t { nx := fun _ H' => Q .non H', rt := Q } (start N vs) H := by
  obtain ⟨F, O, as, S, io, p⟩ := p
  exact pure_of1Z (Z := fun _ => True) vs H Q E (fun B _ => h B) ⟨F, O, as, S, io, trivial, p⟩
theorem pure_of {t : TS} {m : MS} {N : List Str} (h : ∀ B W, SS K B W t m) (vs : List V) (H : Hp) (Q : VK) (E : XK) (p : spM K (runM N.length m) vs H Q E) : t { nx := fun _ H' => Q .non H', rt := Q } (start N vs) H := pure_of1 vs H Q E (fun B => h B _) p
end
end Tw

namespace Tw
open PySem PySem.Spec PyProof.Rows L2
/-! ### data without a list or dict in it -/
mutual
def tupD : Dt → Bool
  | .none => true
  | .bool _ => true
  | .int _ => true
  | .str _ => true
  | .list _ => false
  | .tuple xs => tupAll xs
  | .dict _ => false
def tupAll : List Dt → Bool
  | [] => true
  | x :: xs => tupD x && tupAll xs
end
def Ow.tup : Ow → Bool
  | .l xs => tupAll xs
  | .ll xss => xss.all tupAll
  | .dc kvs => kvs.all fun q => tupD q.2
  | .dl kvs => kvs.all fun q => tupAll q.2
  | .x (.st _) => true
  | .x (.ob _ fs) => fs.all fun q => tupD q.2
  | .x (.dn kvs) => kvs.all fun q => tupD q.2
  | .x (.dt kvs) => kvs.all fun q => tupD q.2
  | .x (.dnl kvs) => kvs.all fun q => tupAll q.2
  | .x (.op _) => true
  | .x (.fn _) => true
  | .x (.fns _) => false
  | .x .lam => true
def A.tup : A → Bool
  | .d x => tupD x
  | .own o => o.tup
  | .io o => o.tup
  | _ => true
section
variable {K : KW} {F F' H : Hp}
/-- the heap without some things that may be changed -/
def SubT (F F' : Hp) : Prop := ∀ a o, F a = some o → F' a = some o ∨ ((∀ xs, o ≠ .tup xs) ∧ ∀ b xs, o ≠ .frz b (.tup xs))
mutual
theorem Dn.sub (s : SubT F F') : ∀ {v : V} {d : Dt}, Dn K F v d → tupD d = true → Dn K F' v d
  | _, _, .non, _ => .non
  | _, _, .bl b, _ => .bl b
  | _, _, .int i, _ => .int i
  | _, _, .str x h, _ => .str x h
  | _, _, .lst _ _, h => nomatch h
  | _, _, .dct _ _, h => nomatch h
  | _, _, .tup h hs, g => by
    refine .tup ?_ (DnAll.sub s hs g)
    rcases h with ⟨o, h, d⟩ | h
    · rcases s _ _ h with z | z
      · exact .inl ⟨o, z, d⟩
      · exact absurd rfl (z.2 _ _)
    · exact .inr h
theorem DnAll.sub (s : SubT F F') : ∀ {vs : List V} {ds : List Dt}, DnAll K F vs ds → tupAll ds = true → DnAll K F' vs ds
  | _, _, .nil, _ => .nil
  | _, _, .cons h hs, g => by
    unfold tupAll at g
    rw [Bool.and_eq_true] at g
    exact .cons (Dn.sub s h g.1) (DnAll.sub s hs g.2)
end
theorem OwL.sub (s : SubT F F') {own : Addr → Prop} {v : V} {xs : List Dt} (h : OwL K F H own v xs) (g : tupAll xs = true) : OwL K F' H own v xs := by
  obtain ⟨a, vs, e, o, q, d⟩ := h
  exact ⟨a, vs, e, o, q, d.sub s g⟩
theorem paired_sub {α β : Type} {R R' : α → β → Prop} {p : β → Bool} (f : ∀ a b, R a b → p b = true → R' a b) : ∀ {xs : List α} {ys : List β}, Paired R xs ys → ys.all p = true → Paired R' xs ys
  | _, _, .nil, _ => .nil
  | _, _, .cons h r, g => by
    rw [List.all_cons, Bool.and_eq_true] at g
    exact .cons (f _ _ h g.1) (paired_sub f r g.2)
theorem TupN.sub (s : SubT F F') {a : Addr} {xs : List V} (h : TupN K F a xs) : TupN K F' a xs := by
  rcases h with ⟨o, h, d⟩ | h
  · rcases s _ _ h with z | z
    · exact .inl ⟨o, z, d⟩
    · exact absurd rfl (z.2 _ _)
  · exact .inr h
theorem OwO.sub (s : SubT F F') {own : Addr → Prop} {v : V} {o : Ow} (h : OwO K F H own v o) (g : o.tup = true) : OwO K F' H own v o := by
  cases o with
  | l xs => exact OwL.sub s h g
  | ll xss =>
    obtain ⟨a, vs, e, q, r, n, m, p⟩ := h
    exact ⟨a, vs, e, q, r, n, m, paired_sub (fun _ _ z g => z.sub s g) p g⟩
  | dc kvs =>
    obtain ⟨a, us, e, q, r, p⟩ := h
    exact ⟨a, us, e, q, r, paired_sub (fun _ _ z g => ⟨z.1, z.2.sub s g⟩) p g⟩
  | dl kvs =>
    obtain ⟨a, us, e, q, r, n, m, p⟩ := h
    exact ⟨a, us, e, q, r, n, m, paired_sub (fun _ _ z g => ⟨z.1, z.2.sub s g⟩) p g⟩
  | x t =>
    cases t with
    | st xs => exact h
    | op u => exact h
    | fn u => exact h
    | fns nms => cases g
    | lam => exact h
    | ob c fs =>
      obtain ⟨a, dx, us, e, o1, o2, q1, q2, p⟩ := h
      exact ⟨a, dx, us, e, o1, o2, q1, q2, paired_sub (fun _ _ z g => ⟨z.1, z.2.sub s g⟩) p g⟩
    | dn kvs =>
      obtain ⟨a, us, e, o1, q1, p⟩ := h
      exact ⟨a, us, e, o1, q1, paired_sub (fun _ _ z g => ⟨z.1, z.2.sub s g⟩) p g⟩
    | dnl kvs =>
      obtain ⟨a, us, e, o1, q1, n, m, p⟩ := h
      exact ⟨a, us, e, o1, q1, n, m, paired_sub (fun _ _ z g => ⟨z.1, z.2.sub s g⟩) p g⟩
    | dt kvs =>
      obtain ⟨a, us, e, o1, q1, p⟩ := h
      exact ⟨a, us, e, o1, q1, paired_sub (fun _ _ z g => ⟨z.1, TupN.sub s z.2.1, z.2.2.sub s g⟩) p g⟩
end
/-! ### arguments -/
def A.ioTup : A → Bool
  | .io o => o.tup
  | _ => true
structure Ag where
  a : A
  io : Option Nat
  br : Option Nat
def cvA (io : Bool) (env : Env) (a : A) : Option Ag := match a, io with
  | .d x, _ => some ⟨.d x, none, none⟩
  | .sc ns, _ => some ⟨.sc ns, none, none⟩
  | .rf i none, true => match owAt env i with
    | some o => some ⟨.io o, some i, none⟩
    | none => none
  | .rf i p, false => match (A.rf i p).val env with
    | some x => some ⟨.d x, none, some i⟩
    | none => none
  | _, _ => none
def cvAs : List Bool → List A → Env → Option (List Ag)
  | [], [], _ => some []
  | io :: bs, a :: as, env => match cvA io env a, cvAs bs as env with
    | some g, some gs => some (g :: gs)
    | _, _ => none
  | _, _, _ => none
def ioS (L : List Ag) : List Nat := L.filterMap (·.io)
def brS (L : List Ag) : List Nat := L.filterMap (·.br)
def agOk (env : Env) (te : List A) (L : List Ag) : Bool := decide (ioS L).Nodup && (ioS L).all fun i => !(brS L).contains i && !anyC (isNest i) env te
def setOw (env : Env) (i : Nat) (a : A) : Env := match env[i]?, a with
  | some (some (.own _)), .io o => env.set i (some (.own o))
  | some (some (.io _)), .io o => env.set i (some (.io o))
  | _, _ => env
def setIo : Env → List Ag → List A → Env
  | env, g :: gs, a :: ios => match g.io with
    | some i => setIo (setOw env i a) gs ios
    | none => setIo env gs ios
  | env, _, _ => env
def doCall (f : DF) (env : Env) (te : List A) (L : List Ag) : Rs A := if agOk env te L = true then (match f (L.map (·.a)) with
    | .ok r ios => if (brS L).isEmpty = true ∨ (r.tup = true ∧ ios.all A.ioTup = true) then .ok r (setIo env L ios) else .bad
    | .ex x ios => if (brS L).isEmpty = true ∨ (x.fs.all (fun q => tupD q.2) = true ∧ ios.all A.ioTup = true) then .ex x (setIo env L ios) else .bad
    | .bad => .bad) else .bad
def mCall (f : DF) (io : List Bool) (m : MA) : ME := fun env te => (m env te).bind fun as e => match cvAs io as e with
  | some L => doCall f e te L
  | none => .bad
/-! ### soundness of a call -/
def simA : A → Bool
  | .own _ => false
  | .io _ => false
  | _ => true
theorem cvA_sim {io : Bool} {env : Env} {a : A} {g : Ag} (h : cvA io env a = some g) : simA a = true := by
  cases a with
  | own o => cases io <;> cases h
  | io o => cases io <;> cases h
  | _ => rfl
theorem cvAs_sim : ∀ {bs : List Bool} {as : List A} {env : Env} {L : List Ag}, cvAs bs as env = some L → ∀ a ∈ as, simA a = true
  | [], [], _, _, _, a, h => nomatch h
  | io :: bs, b :: as, env, L, h, a, hm => by
    unfold cvAs at h
    cases q : cvA io env b with
    | none => rw [q] at h; cases h
    | some g =>
      cases q2 : cvAs bs as env with
      | none => rw [q, q2] at h; cases h
      | some gs =>
        rcases List.mem_cons.mp hm with rfl | hm
        · exact cvA_sim q
        · exact cvAs_sim q2 a hm
  | [], _ :: _, _, _, h, _, _ => nomatch h
  | _ :: _, [], _, _, h, _, _ => nomatch h
section
variable {K : KW} {B : Bs} {F H : Hp} {σ : List (Option V)} {env : Env} {ts : List V} {te : List A}
theorem args_cells : ∀ {us : List V} {ue : List A} {O : Addr → Option Nat}, us.length = ue.length → (∀ a ∈ ue, simA a = true) → RelF K B F O σ env (us ++ ts) (ue ++ te) H →
    ∃ O', RelF K B F O' σ env ts te H ∧ (∀ b i, i < σ.length → O b = some i → O' b = some i) ∧ Paired (fun v a => CellO K B F H O' σ 0 v a) us ue
  | [], [], O, _, _, R => ⟨O, R, (fun _ _ _ z => z), .nil⟩
  | u :: us, a :: ue, O, hl, hs, R => by
    obtain ⟨O', R', k, p⟩ := args_cells (Nat.succ.inj hl) (fun a h => hs a (List.mem_cons_of_mem _ h)) (RelF.pop R)
    have k' : ∀ b i, i < σ.length → O b = some i → O' b = some i := fun b i hi z => k b i hi ((if_neg (by rw [z]; intro y; have := Option.some.inj y; omega)).trans z)
    refine ⟨O', R', k', .cons ?_ p⟩
    have c := R.tm.1
    have sa := hs a List.mem_cons_self
    cases a with
    | d x => exact c
    | own o => cases sa
    | io o => cases sa
    | sc ns => exact c
    | q ns => exact c
    | lk ns => exact c
    | xr ns => exact c
    | rf i q =>
      obtain ⟨w, hw, c⟩ := c
      have il := (List.getElem?_eq_some_iff.mp hw).1
      exact ⟨w, hw, c.mono fun _ b z => ⟨k' b i il z, rfl⟩⟩
  | [], _ :: _, _, h, _, _ => nomatch h
  | _ :: _, [], _, h, _, _ => nomatch h
theorem paired_appR {α β : Type} {R : α → β → Prop} : ∀ {xs : List α} {ys : List β} {x : α} {y : β}, Paired R xs ys → R x y → Paired R (xs ++ [x]) (ys ++ [y])
  | _, _, _, _, .nil, h => .cons h .nil
  | _, _, _, _, .cons g r, h => .cons g (paired_appR r h)
theorem paired_rev {α β : Type} {R : α → β → Prop} : ∀ {xs : List α} {ys : List β}, Paired R xs ys → Paired R xs.reverse ys.reverse
  | _, _, .nil => .nil
  | _, _, .cons h r => by
    rw [List.reverse_cons, List.reverse_cons]
    exact paired_appR (paired_rev r) h
/-- what is known of an argument -/
def GA (K : KW) (F H : Hp) (O : Addr → Option Nat) (σ : List (Option V)) (env : Env) (v : V) (g : Ag) : Prop :=
  (∃ x, g = ⟨.d x, none, none⟩ ∧ Dn K F v x) ∨ (∃ i o x, o.dt = some x ∧ g = ⟨.d x, none, some i⟩ ∧ OwO K F H (fun a => O a = some i) v o) ∨ (∃ ns a, g = ⟨.sc ns, none, none⟩ ∧ v = .ref a ∧ SqL K F a (ns.map V.int)) ∨
    ∃ o i, g = ⟨.io o, some i, none⟩ ∧ OwO K F H (fun a => O a = some i) v o ∧ σ[i]? = some (some v) ∧ owAt env i = some o
variable {O : Addr → Option Nat}
/-- what a reference tells is owned by its slot -/
theorem cell_rf (R : RelF K B F O σ env ts te H) {j i : Nat} {p : Option Key} {v : V} {o : Ow} (c : CellO K B F H O σ j v (.rf i p)) (h : (A.rf i p).ow env = some o) : OwO K F H (fun a => O a = some i) v o := by
  obtain ⟨w, hw, q⟩ := c
  cases p with
  | none => cases q; exact R.owAt h hw
  | some k =>
    have h' : (match Tw.owAt env i with | some o => (o.sub k).map Ow.l | none => none) = some o := h
    cases e : Tw.owAt env i with
    | none => rw [e] at h'; cases h'
    | some u =>
      rw [e] at h'
      obtain ⟨a, ew, oa, q⟩ := q
      have z := R.owAt e hw
      have h' : (u.sub k).map Ow.l = some o := h'
      cases hs : u.sub k with
      | none => rw [hs] at h'; cases h'
      | some xs =>
        rw [hs] at h'
        cases h'
        cases u with
        | l _ => cases hs
        | dc _ => cases hs
        | x _ => cases hs
        | ll xss =>
          obtain ⟨a', vs, e1, o1, h1, n1, m1, p1⟩ := z
          rw [ew] at e1
          cases e1
          cases k with
          | inr _ => cases hs
          | inl n =>
            have hs' : (if 0 ≤ n then xss[n.toNat]? else none) = some xs := hs
            by_cases n0 : 0 ≤ n
            · rw [if_pos n0] at hs'
              rcases q with ⟨vs', m, em, m0, hv, hq⟩ | ⟨us, hu, _⟩
              · cases em
                rw [h1] at hv
                cases hv
                obtain ⟨x, hx, r⟩ := paired_getR p1 hs'
                rw [hq] at hx
                cases hx
                exact r
              · rw [h1] at hu; cases hu
            · rw [if_neg n0] at hs'; cases hs'
        | dl kvs =>
          obtain ⟨a', us, e1, o1, h1, n1, m1, p1⟩ := z
          rw [ew] at e1
          cases e1
          rcases q with ⟨vs', m, em, m0, hv, hq⟩ | ⟨us', hu, hq⟩
          · rw [h1] at hv; cases hv
          · rw [h1] at hu
            cases hu
            obtain ⟨x, hx, r⟩ := (paired_lk (R := OwL K F H fun a => O a = some i) p1 k).1 xs hs
            rw [hq] at hx
            cases hx
            exact r
theorem cvA_ga (R : RelF K B F O σ env ts te H) {io : Bool} {v : V} {a : A} {g : Ag} (c : CellO K B F H O σ 0 v a) (h : cvA io env a = some g) : GA K F H O σ env v g := by
  cases a with
  | d x => cases io <;> (cases h; exact .inl ⟨x, rfl, c⟩)
  | sc ns =>
    obtain ⟨a, e, q⟩ := c
    cases io <;> (cases h; exact .inr (.inr (.inl ⟨ns, a, rfl, e, q⟩)))
  | own o => cases io <;> cases h
  | io o => cases io <;> cases h
  | q o => cases io <;> cases h
  | lk o => cases io <;> cases h
  | xr o => cases io <;> cases h
  | rf i p =>
    cases io with
    | false =>
      replace h : (match (A.rf i p).val env with | some x => some (⟨.d x, none, some i⟩ : Ag) | none => none) = some g := by cases p <;> exact h
      have h : (match (A.rf i p).val env with | some x => some (⟨.d x, none, some i⟩ : Ag) | none => none) = some g := h
      cases q : (A.rf i p).ow env with
      | none =>
        have q2 : (A.rf i p).val env = none := by show ((A.rf i p).ow env).bind Ow.dt = none; rw [q]; rfl
        rw [q2] at h; cases h
      | some o =>
        have q2 : (A.rf i p).val env = o.dt := by show ((A.rf i p).ow env).bind Ow.dt = o.dt; rw [q]; rfl
        rw [q2] at h
        cases hd : o.dt with
        | none => rw [hd] at h; cases h
        | some d =>
          rw [hd] at h
          cases h
          exact .inr (.inl ⟨i, o, d, hd, rfl, cell_rf R c q⟩)
    | true =>
      cases p with
      | some k => cases h
      | none =>
        have h : (match owAt env i with | some o => some (⟨.io o, some i, none⟩ : Ag) | none => none) = some g := h
        cases q : owAt env i with
        | none => rw [q] at h; cases h
        | some o =>
          rw [q] at h
          cases h
          obtain ⟨w, hw, e⟩ := id c
          have e : v = w := e
          subst e
          exact .inr (.inr (.inr ⟨o, i, rfl, cell_rf R c q, hw, q⟩))
theorem cvAs_ga (R : RelF K B F O σ env ts te H) : ∀ {bs : List Bool} {vs : List V} {as : List A} {L : List Ag}, Paired (fun v a => CellO K B F H O σ 0 v a) vs as → cvAs bs as env = some L → Paired (GA K F H O σ env) vs L
  | [], [], [], _, .nil, h => by cases h; exact .nil
  | io :: bs, v :: vs, a :: as, L, .cons c r, h => by
    unfold cvAs at h
    cases q : cvA io env a with
    | none => rw [q] at h; cases h
    | some g =>
      cases q2 : cvAs bs as env with
      | none => rw [q, q2] at h; cases h
      | some gs =>
        rw [q, q2] at h
        cases h
        exact .cons (cvA_ga R c q) (cvAs_ga R r q2)
  | _ :: _, [], [], _, .nil, h => nomatch h
  | [], _ :: _, _ :: _, _, .cons _ _, h => nomatch h
end
theorem ioS_mem : ∀ {L : List Ag} {k : Nat} {g : Ag} {i : Nat}, L[k]? = some g → g.io = some i → i ∈ ioS L
  | g' :: L, 0, g, i, h, hi => by
    cases h
    unfold ioS
    rw [List.filterMap_cons, hi]
    exact List.mem_cons_self
  | g' :: L, k + 1, g, i, h, hi => by
    have := ioS_mem (L := L) (k := k) (by simpa using h) hi
    unfold ioS at this ⊢
    rw [List.filterMap_cons]
    cases g'.io with
    | none => exact this
    | some j => exact List.mem_cons_of_mem _ this
theorem ioS_inv : ∀ {L : List Ag} {i : Nat}, i ∈ ioS L → ∃ (k : Nat) (g : Ag), L[k]? = some g ∧ g.io = some i := fun {L i} h => by
  unfold ioS at h
  obtain ⟨g, hg, e⟩ := List.mem_filterMap.mp h
  obtain ⟨k, hk⟩ := List.getElem?_of_mem hg
  exact ⟨k, g, hk, e⟩
theorem brS_mem {L : List Ag} {k : Nat} {g : Ag} {i : Nat} (h : L[k]? = some g) (hi : g.br = some i) : i ∈ brS L := List.mem_filterMap.mpr ⟨g, List.mem_of_getElem? h, hi⟩
theorem ioS_uniq : ∀ {L : List Ag}, (ioS L).Nodup → ∀ {k k' : Nat} {g g' : Ag} {i : Nat}, L[k]? = some g → L[k']? = some g' → g.io = some i → g'.io = some i → k = k'
  | [], _, _, _, _, _, _, h, _, _, _ => by simp at h
  | g0 :: L, nd, k, k', g, g', i, h, h', e, e' => by
    have nd' : (ioS L).Nodup := by
      unfold ioS at nd ⊢
      rw [List.filterMap_cons] at nd
      cases q : g0.io with
      | none => rw [q] at nd; exact nd
      | some j => rw [q] at nd; exact (List.nodup_cons.mp nd).2
    have no : g0.io = some i → ∀ (n : Nat) (g2 : Ag), L[n]? = some g2 → g2.io ≠ some i := fun q n g2 hn he => by
      have nd := nd
      unfold ioS at nd
      rw [List.filterMap_cons, q] at nd
      exact (List.nodup_cons.mp nd).1 (ioS_mem hn he)
    cases k with
    | zero =>
      cases k' with
      | zero => rfl
      | succ n' => cases h; exact absurd e' (no e n' g' (by simpa using h'))
    | succ n =>
      cases k' with
      | zero => cases h'; exact absurd e (no e' n g (by simpa using h))
      | succ n' => exact congrArg (· + 1) (ioS_uniq nd' (by simpa using h) (by simpa using h') e e')
theorem setOw_other {env : Env} {i j : Nat} {a : A} (h : j ≠ i) : (setOw env i a)[j]? = env[j]? := by
  unfold setOw
  split
  · rw [List.getElem?_set, if_neg (Ne.symm h)]
  · rw [List.getElem?_set, if_neg (Ne.symm h)]
  · rfl
theorem setOw_len {env : Env} {i : Nat} {a : A} : (setOw env i a).length = env.length := by
  unfold setOw
  split
  · rw [List.length_set]
  · rw [List.length_set]
  · rfl
theorem setIo_len : ∀ {L : List Ag} {env : Env} {ios : List A}, (setIo env L ios).length = env.length
  | [], _, _ => rfl
  | _ :: _, _, [] => rfl
  | g :: L, env, a :: ios => by
    unfold setIo
    split
    · rw [setIo_len, setOw_len]
    · rw [setIo_len]
theorem setIo_other {j : Nat} : ∀ {L : List Ag} {env : Env} {ios : List A}, j ∉ ioS L → (setIo env L ios)[j]? = env[j]?
  | [], _, _, _ => rfl
  | _ :: _, _, [], _ => rfl
  | g :: L, env, a :: ios, h => by
    unfold setIo
    unfold ioS at h
    rw [List.filterMap_cons] at h
    split
    · rename_i i hi
      rw [hi] at h
      rw [setIo_other (L := L) (fun z => h (List.mem_cons_of_mem _ z)), setOw_other (fun z => h (by rw [z]; exact List.mem_cons_self))]
    · rename_i hi
      rw [hi] at h
      exact setIo_other (L := L) h
theorem setIo_at {i : Nat} {o' : Ow} : ∀ {L : List Ag} {env : Env} {ios : List A} {k : Nat} {g : Ag}, (ioS L).Nodup → L[k]? = some g → g.io = some i → ios[k]? = some (.io o') →
    (∀ o, env[i]? = some (some (.own o)) → (setIo env L ios)[i]? = some (some (.own o'))) ∧ (∀ o, env[i]? = some (some (.io o)) → (setIo env L ios)[i]? = some (some (.io o')))
  | [], _, _, _, _, _, h, _, _ => by simp at h
  | g0 :: L, env, [], k, g, nd, h, hi, hio => by simp at hio
  | g0 :: L, env, a :: ios, 0, g, nd, h, hi, hio => by
    cases h
    cases hio
    have nd := nd
    unfold ioS at nd
    rw [List.filterMap_cons, hi] at nd
    have ni : i ∉ ioS L := (List.nodup_cons.mp nd).1
    unfold setIo
    rw [hi]
    simp only
    refine ⟨fun o e => ?_, fun o e => ?_⟩
    · rw [setIo_other ni]
      unfold setOw
      rw [e]
      simp only
      rw [List.getElem?_set, if_pos rfl, if_pos (List.getElem?_eq_some_iff.mp e).1]
    · rw [setIo_other ni]
      unfold setOw
      rw [e]
      simp only
      rw [List.getElem?_set, if_pos rfl, if_pos (List.getElem?_eq_some_iff.mp e).1]
  | g0 :: L, env, a :: ios, k + 1, g, nd, h, hi, hio => by
    have nd' : (ioS L).Nodup := by
      unfold ioS at nd ⊢
      rw [List.filterMap_cons] at nd
      cases q : g0.io with
      | none => rw [q] at nd; exact nd
      | some j => rw [q] at nd; exact (List.nodup_cons.mp nd).2
    have hk : L[k]? = some g := by simpa using h
    have ne : ∀ j, g0.io = some j → i ≠ j := fun j q z => by
      have := ioS_uniq nd (k := 0) (k' := k + 1) rfl h (by rw [q, z]) hi
      omega
    unfold setIo
    split
    · rename_i j hj
      obtain ⟨h1, h2⟩ := setIo_at (env := setOw env j a) (ios := ios) nd' hk hi (by simpa using hio)
      exact ⟨fun o e => h1 o (by rw [setOw_other (ne j hj)]; exact e), fun o e => h2 o (by rw [setOw_other (ne j hj)]; exact e)⟩
    · exact setIo_at (ios := ios) nd' hk hi (by simpa using hio)
end Tw

namespace Tw
open PySem PySem.Spec PyProof.Rows L2
section
variable {K : KW} {B : Bs} {W : WX} {F H : Hp} {O : Addr → Option Nat} {σ : List (Option V)} {env : Env} {ts : List V} {te : List A}
def kOf (L : List Ag) (i : Nat) : Option Nat := L.findIdx? fun g => decide (g.io = some i)
theorem kOf_some {L : List Ag} {i k : Nat} (h : kOf L i = some k) : ∃ g, L[k]? = some g ∧ g.io = some i := by
  unfold kOf at h
  obtain ⟨hk, hp, _⟩ := List.findIdx?_eq_some_iff_getElem.mp h
  exact ⟨L[k], List.getElem?_eq_getElem hk, of_decide_eq_true hp⟩
theorem kOf_at {L : List Ag} (nd : (ioS L).Nodup) {i k : Nat} {g : Ag} (h : L[k]? = some g) (hi : g.io = some i) : kOf L i = some k := by
  cases q : kOf L i with
  | none =>
    unfold kOf at q
    have := List.findIdx?_eq_none_iff.mp q g (List.mem_of_getElem? h)
    rw [hi] at this
    simp at this
  | some k' =>
    obtain ⟨g', h', hi'⟩ := kOf_some q
    rw [ioS_uniq nd h h' hi hi']
theorem kOf_none {L : List Ag} {i : Nat} (h : i ∉ ioS L) : kOf L i = none := by
  cases q : kOf L i with
  | none => rfl
  | some k =>
    obtain ⟨g, h1, h2⟩ := kOf_some q
    exact absurd (ioS_mem h1 h2) h
open Classical in
theorem call_start (R : RelF K B F O σ env ts te H) {vs : List V} {L : List Ag} (g : Paired (GA K F H O σ env) vs L) (nd : (ioS L).Nodup) (dj : ∀ i ∈ ioS L, i ∉ brS L) :
    KdA (fun k => match L[k]? with | some g => g.io.isSome | none => false) (L.map (·.a)) ∧
    RelF K ⟨H, fun a => if ∃ i ∈ brS L, O a = some i then H a else F a, fun a => (O a).bind (kOf L), vs, fun k => (match L[k]? with | some g => g.io.isSome | none => false), (0, .none, none)⟩
      (fun a => if ∃ i ∈ brS L, O a = some i then H a else F a) (fun a => (O a).bind (kOf L)) (vs.map some) ((L.map (·.a)).map some) [] [] H := by
  have sF : Same F (fun a => if ∃ i ∈ brS L, O a = some i then H a else F a) := fun a o e => by
    show (if ∃ i ∈ brS L, O a = some i then H a else F a) = some o
    rw [if_neg]
    · exact e
    · rintro ⟨i, _, z⟩
      rw [(R.of a i z).1] at e
      cases e
  have iok : ∀ {k : Nat} {g : Ag}, L[k]? = some g → (match L[k]? with | some g => g.io.isSome | none => false) = g.io.isSome := fun h => by rw [h]
  refine ⟨fun k a e => ?_, ⟨?_, fun k a e => ?_, trivial, ?_, fun a k z => ?_, Same.refl _, fun b o _ _ e => e, fun b h1 h2 => absurd h1 h2, fun b h => h, fun k hk => ?_, fun p hp => ⟨(if_neg (by
    rintro ⟨i, _, z⟩
    rw [(R.tabO hp).1] at z
    cases z)).trans (R.noF hp), (R.tabO hp).2, by
      show (O p.1).bind (kOf L) = none
      rw [(R.tabO hp).1]
      rfl⟩, R.tb.2⟩⟩
  · rw [List.getElem?_map] at e
    cases q : L[k]? with
    | none => rw [q] at e; cases e
    | some ag =>
      rw [q] at e
      cases e
      obtain ⟨v, hv, ga⟩ := paired_getR g q
      rcases ga with ⟨x, rfl, _⟩ | ⟨i, o, xd, hxd, rfl, _⟩ | ⟨ns, p, rfl, _⟩ | ⟨o, i, rfl, _⟩
      · exact .inl ⟨_, rfl⟩
      · exact .inl ⟨_, rfl⟩
      · exact .inr (.inl ⟨_, rfl⟩)
      · exact .inr (.inr ⟨⟨_, rfl⟩, by simp only [q]; rfl⟩)
  · rw [List.length_map, List.length_map, List.length_map]
    exact g.length
  · rw [List.map_map, List.getElem?_map] at e
    cases q : L[k]? with
    | none => rw [q] at e; cases e
    | some ag =>
      rw [q] at e
      cases e
      obtain ⟨v, hv, ga⟩ := paired_getR g q
      refine ⟨v, by rw [List.getElem?_map, hv]; rfl, ?_⟩
      rcases ga with ⟨x, rfl, c⟩ | ⟨i, o, xd, hxd, rfl, c⟩ | ⟨ns, p, rfl, e, c⟩ | ⟨o, i, rfl, c, h1, h2⟩
      · exact Dn.same sF c
      · refine OwO.dn (own := fun a => O a = some i) sF (fun a z => if_pos ⟨i, brS_mem q rfl, z⟩) c hxd
      · exact ⟨p, e, Same.sqL sF c⟩
      · refine ⟨OwO.mono (own := fun a => O a = some i) sF (fun a z => ?_) (fun _ _ => rfl) c, hv⟩
        show (O a).bind (kOf L) = some k
        rw [z]
        exact kOf_at nd q rfl
  · intro a o e
    have e : (if ∃ i ∈ brS L, O a = some i then H a else F a) = some o := e
    split at e
    · exact e
    · exact R.sf a o e
  · have z : (O a).bind (kOf L) = some k := z
    cases q : O a with
    | none => rw [q] at z; cases z
    | some i =>
      rw [q] at z
      obtain ⟨ag, h1, h2⟩ := kOf_some z
      obtain ⟨q1, q2, q3, q4⟩ := R.of a i q
      refine ⟨?_, q2, ?_, .inr ⟨by show (O a).bind (kOf L) = some k; rw [q]; exact z, by simp only [h1, h2]; rfl⟩⟩
      · refine (if_neg ?_).trans q1
        rintro ⟨j, hj, z2⟩
        first | (rw [q] at z2; cases z2; exact dj i (ioS_mem h1 h2) hj) | (cases z2; exact dj i (ioS_mem h1 h2) hj)
      · rw [List.length_map, g.length]
        have := (List.getElem?_eq_some_iff.mp h1).1
        simpa using this
  · have hk : (match L[k]? with | some g => g.io.isSome | none => false) = true := hk
    cases q : L[k]? with
    | none => rw [q] at hk; cases hk
    | some ag =>
      rw [q] at hk
      obtain ⟨v, hv, ga⟩ := paired_getR g q
      rcases ga with ⟨x, rfl, c⟩ | ⟨i, o, xd, hxd, rfl, c⟩ | ⟨ns, p, rfl, e, c⟩ | ⟨o, i, rfl, c, h1, h2⟩
      · cases hk
      · cases hk
      · cases hk
      · exact ⟨o, by rw [List.map_map, List.getElem?_map, q]; rfl⟩
open Classical in
/-- behind the call: the caller's own things again -/
theorem call_back (R : RelF K B F O σ env ts te H) {vs : List V} {L : List Ag} (g : Paired (GA K F H O σ env) vs L) (nd : (ioS L).Nodup) (dj : ∀ i ∈ ioS L, i ∉ brS L) (nn : ∀ i ∈ ioS L, anyC (isNest i) env te = false)
    {F' H' : Hp} {O' : Addr → Option Nat} {ios : List A} {xs : List V} {xe : List A}
    (R' : RelF K ⟨H, fun a => if ∃ i ∈ brS L, O a = some i then H a else F a, fun a => (O a).bind (kOf L), vs, fun k => (match L[k]? with | some g => g.io.isSome | none => false), (0, .none, none)⟩ F' O' (vs.map some) (ios.map some) xs xe H')
    (tp : (brS L).isEmpty = true ∨ ios.all A.ioTup = true) :
    ∃ F2 O2, RelF K B F2 O2 σ (setIo env L ios) ts te H' ∧ (∀ v x, Dn K F' v x → ((brS L).isEmpty = true ∨ tupD x = true) → Dn K F2 v x) ∧ (∀ us ds, DnAll K F' us ds → ((brS L).isEmpty = true ∨ tupAll ds = true) → DnAll K F2 us ds) ∧ (∀ a fs, F' a = some (.xd fs) → F2 a = some (.xd fs)) ∧
      (∀ v o, OwO K F' H' (fun a => O' a = some vs.length ∧ H a = none) v o → ((brS L).isEmpty = true ∨ o.tup = true) → ∃ O3, RelF K B F2 O3 σ (setIo env L ios) (v :: ts) (.own o :: te) H') := by
  have ioN : ∀ k : Nat, (match L[k]? with | some g => g.io.isSome | none => false) = true → ∃ (ag : Ag) (i : Nat), L[k]? = some ag ∧ ag.io = some i := fun k hk => by
    cases q : L[k]? with
    | none => rw [q] at hk; cases hk
    | some ag =>
      rw [q] at hk
      cases q2 : ag.io with
      | none => simp only [q2] at hk; cases hk
      | some i => exact ⟨ag, i, rfl, q2⟩
  let F2 : Hp := fun a => if ∃ i ∈ brS L, O a = some i then none else F' a
  have f2n : ∀ a i, O a = some i → i ∈ brS L → F2 a = none := fun a i z hi => if_pos ⟨i, hi, z⟩
  have f2p : ∀ a, (¬ ∃ i ∈ brS L, O a = some i) → F2 a = F' a := fun a z => if_neg z
  have sFx : Same F (fun a => if ∃ i ∈ brS L, O a = some i then H a else F a) := fun a o e => by
    show (if ∃ i ∈ brS L, O a = some i then H a else F a) = some o
    rw [if_neg]
    · exact e
    · rintro ⟨i, _, z⟩
      rw [(R.of a i z).1] at e
      cases e
  have sF : Same F F2 := fun a o e => by
    rw [f2p a]
    · exact R'.b1 a o (sFx a o e)
    · rintro ⟨i, _, z⟩
      rw [(R.of a i z).1] at e
      cases e
  have sub : SubT F' F2 := fun a o e => by
    by_cases c : ∃ i ∈ brS L, O a = some i
    · obtain ⟨i, hi, z⟩ := c
      obtain ⟨q1, q2, q3, q4⟩ := R.of a i z
      cases hh : H a with
      | none => exact absurd hh q2.1
      | some u =>
        have e2 : F' a = some u := R'.b1 a u ((if_pos ⟨i, hi, z⟩).trans hh)
        rw [e] at e2
        cases e2
        rw [hh] at q2
        exact .inr ⟨fun xs z => q2.2.1 xs (by rw [z]), fun b u z => q2.2.2.1 b (.tup u) (by rw [z])⟩
    · exact .inl (by rw [f2p a c]; exact e)
  have emp : (brS L).isEmpty = true → F2 = F' := fun h => funext fun a => f2p a (by
    rintro ⟨i, hi, _⟩
    rw [List.isEmpty_iff.mp h] at hi
    cases hi)
  have dn : ∀ v x, Dn K F' v x → ((brS L).isEmpty = true ∨ tupD x = true) → Dn K F2 v x := fun v x h c => by
    rcases c with c | c
    · rw [emp c]; exact h
    · exact Dn.sub sub h c
  have dna : ∀ us ds, DnAll K F' us ds → ((brS L).isEmpty = true ∨ tupAll ds = true) → DnAll K F2 us ds := fun us ds h c => by
    rcases c with c | c
    · rw [emp c]; exact h
    · exact DnAll.sub sub h c
  have ow : ∀ (own : Addr → Prop) v o, OwO K F' H' own v o → ((brS L).isEmpty = true ∨ o.tup = true) → OwO K F2 H' own v o := fun own v o h c => by
    rcases c with c | c
    · rw [emp c]; exact h
    · exact OwO.sub sub h c
  have xdk : ∀ a fs, F' a = some (.xd fs) → F2 a = some (.xd fs) := fun a fs e => by
    by_cases c : ∃ i ∈ brS L, O a = some i
    · obtain ⟨i, hi, z⟩ := c
      obtain ⟨q1, q2, q3, q4⟩ := R.of a i z
      cases hh : H a with
      | none => exact absurd hh q2.1
      | some u =>
        have e2 : F' a = some u := R'.b1 a u ((if_pos ⟨i, hi, z⟩).trans hh)
        rw [e] at e2
        cases e2
        exact absurd hh (q2.2.2.2.1 fs)
    · rw [f2p a c]; exact e
  -- what is not handed over stays
  have stay : ∀ a j, O a = some j → j ∉ ioS L → H' a = H a ∧ F2 a = none ∧ ∀ k, O' a ≠ some k := fun a j z hj => by
    obtain ⟨q1, q2, q3, q4⟩ := R.of a j z
    have nS : (O a).bind (kOf L) = none := by rw [z]; exact kOf_none hj
    have hH : H' a = H a := by
      cases hh : H a with
      | none => exact absurd hh q2.1
      | some u => exact R'.b2 a u nS (fun ps e => by rw [hh, e] at q2; exact q2.2.2.2.2.1 ps rfl) hh
    refine ⟨hH, ?_, fun k hk => ?_⟩
    · by_cases c : ∃ i ∈ brS L, O a = some i
      · exact if_pos c
      · rw [f2p a c]
        cases hf : F' a with
        | none => rfl
        | some u =>
          rcases R'.b3 a ((if_neg c).trans q1) (by rw [hf]; exact nofun) with z | z
          · exact absurd z q2.1
          · exact absurd nS z
    · rcases (R'.of a k hk).2.2.2 with y | y
      · exact q2.1 y
      · have y1 : (O a).bind (kOf L) = some k := y.1
        rw [nS] at y1
        cases y1
  let O2 : Addr → Option Nat := fun a => match O' a with
    | some k => (L[k]?).bind (·.io)
    | none => match O a with
      | some j => if j ∈ ioS L then none else some j
      | none => none
  have o2a : ∀ a j, O a = some j → j ∉ ioS L → O2 a = some j := fun a j z hj => by
    have h := (stay a j z hj).2.2
    show (match O' a with | some k => (L[k]?).bind (·.io) | none => match O a with | some j => if j ∈ ioS L then none else some j | none => none) = some j
    cases q : O' a with
    | some k => exact absurd q (h k)
    | none => simp only [z]; exact if_neg hj
  have o2b : ∀ a k ag i, O' a = some k → L[k]? = some ag → ag.io = some i → O2 a = some i := fun a k ag i z h1 h2 => by
    show (match O' a with | some k => (L[k]?).bind (·.io) | none => match O a with | some j => if j ∈ ioS L then none else some j | none => none) = some i
    rw [z]
    simp only [h1]
    exact h2
  have o2inv : ∀ a j, O2 a = some j → (O a = some j ∧ j ∉ ioS L) ∨ ∃ k ag, O' a = some k ∧ L[k]? = some ag ∧ ag.io = some j := fun a j z => by
    have z : (match O' a with | some k => (L[k]?).bind (·.io) | none => match O a with | some j => if j ∈ ioS L then none else some j | none => none) = some j := z
    cases q : O' a with
    | some k =>
      rw [q] at z
      have z : (L[k]?).bind (·.io) = some j := z
      cases q2 : L[k]? with
      | none => rw [q2] at z; cases z
      | some ag => rw [q2] at z; exact .inr ⟨k, ag, rfl, q2, z⟩
    | none =>
      rw [q] at z
      have z : (match O a with | some j => if j ∈ ioS L then none else some j | none => none) = some j := z
      cases q2 : O a with
      | none => rw [q2] at z; cases z
      | some i =>
        rw [q2] at z
        have z : (if i ∈ ioS L then none else some i) = some j := z
        split at z
        · cases z
        · cases z; exact .inl ⟨rfl, by assumption⟩
  have cm : ∀ {j : Nat} {u : V} {c : A}, CellO K B F H O σ j u c → j ∉ ioS L → (∀ i ∈ ioS L, isNest i c = false) → CellO K B F2 H' O2 σ j u c := fun {j u c} h nj hc => by
    refine h.mono sF (fun b z => ⟨o2a b j z nj, (stay b j z nj).1⟩) (fun _ _ => rfl) (fun _ _ _ _ z => z) (fun i k e b z => ?_)
    by_cases hi : i ∈ ioS L
    · have := hc i hi
      rw [e] at this
      simp [isNest] at this
    · exact ⟨o2a b i z hi, (stay b i z hi).1⟩
  have iol : ∀ i ∈ ioS L, i < σ.length := fun i hi => by
    obtain ⟨k, ag, h1, h2⟩ := ioS_inv hi
    obtain ⟨v, hv, ga⟩ := paired_getR g h1
    rcases ga with ⟨x, rfl, c⟩ | ⟨i, o, xd, hxd, rfl, c⟩ | ⟨ns, p, rfl, e, c⟩ | ⟨o, i', rfl, c, h3, h4⟩
    · cases h2
    · cases h2
    · cases h2
    · cases h2
      exact (List.getElem?_eq_some_iff.mp h3).1
  have tm : ∀ {us : List V} {ue : List A}, (∀ i ∈ ioS L, ∀ a ∈ ue, isNest i a = false) → TmO K B F H O σ us ue → TmO K B F2 H' O2 σ us ue := fun {us} => by
    induction us with
    | nil => intro ue _ h; cases ue with
      | nil => trivial
      | cons => exact h.elim
    | cons u us ih =>
      intro ue hl h
      cases ue with
      | nil => exact h.elim
      | cons x ue =>
        refine ⟨cm h.1 (fun z => ?_) (fun i hi => hl i hi x List.mem_cons_self), ih (fun i hi a ha => hl i hi a (List.mem_cons_of_mem _ ha)) h.2⟩
        have := iol _ z
        omega
  have ioSlot : ∀ i ∈ ioS L, ∃ (k : Nat) (ag : Ag) (o' : Ow) (w : V), L[k]? = some ag ∧ ag.io = some i ∧ ios[k]? = some (.io o') ∧ σ[i]? = some (some w) ∧ OwO K F' H' (fun a => O' a = some k) w o' ∧ ∃ o, owAt env i = some o := fun i hi => by
    obtain ⟨k, ag, h1, h2⟩ := ioS_inv hi
    obtain ⟨v, hv, ga⟩ := paired_getR g h1
    rcases ga with ⟨x, rfl, c⟩ | ⟨i, o, xd, hxd, rfl, c⟩ | ⟨ns, p, rfl, e, c⟩ | ⟨o, i', rfl, c, h3, h4⟩
    · cases h2
    · cases h2
    · cases h2
    · cases h2
      obtain ⟨o', ho'⟩ := R'.bi k (by simp only [h1]; rfl)
      rw [List.getElem?_map] at ho'
      cases q : ios[k]? with
      | none => rw [q] at ho'; cases ho'
      | some a0 =>
        rw [q] at ho'
        cases ho'
        obtain ⟨w, hw, cc⟩ := R'.sl k (.io o') (by rw [List.getElem?_map, q]; rfl)
        have e2 : w = v := by
          rw [List.getElem?_map, hv] at hw
          cases hw
          rfl
        subst e2
        exact ⟨k, _, o', w, h1, rfl, by first | exact q | rfl, h3, cc.1, o, h4⟩
  have iotup : ∀ (k : Nat) (o' : Ow), ios[k]? = some (A.io o') → (brS L).isEmpty = true ∨ o'.tup = true := fun k o' h => by
    rcases tp with c | c
    · exact .inl c
    · exact .inr (List.all_eq_true.mp c _ (List.mem_of_getElem? h))
  have slots : ∀ i a, (setIo env L ios)[i]? = some (some a) → ∃ v, σ[i]? = some (some v) ∧ CellO K B F2 H' O2 σ i v a := fun i a e => by
    by_cases hi : i ∈ ioS L
    · obtain ⟨k, ag, o', w, h1, h2, h3, h4, h5, o, h6⟩ := ioSlot i hi
      refine ⟨w, h4, ?_⟩
      have h5' := ow _ w o' h5 (iotup k o' h3)
      have own2 : OwO K F2 H' (fun a => O2 a = some i) w o' := OwO.mono (own := fun a => O' a = some k) (Same.refl F2) (fun a z => o2b a k ag i z h1 h2) (fun _ _ => rfl) h5'
      unfold Tw.owAt at h6
      cases q : env[i]? with
      | none => rw [q] at h6; cases h6
      | some c =>
        cases c with
        | none => rw [q] at h6; cases h6
        | some c =>
          obtain ⟨s1, s2⟩ := setIo_at (env := env) (ios := ios) nd h1 h2 h3
          cases c with
          | own o0 =>
            rw [s1 o0 q] at e
            cases e
            refine OwO.mono (own := fun a => O' a = some k) (Same.refl F2) (fun a z => ⟨o2b a k ag i z h1 h2, ?_⟩) (fun _ _ => rfl) h5'
            rcases (R'.of a k z).2.2.2 with y | y
            · exact Classical.byContradiction fun hb => R.b5 a hb y
            · have y1 : (O a).bind (kOf L) = some k := y.1
              cases zj : O a with
              | none => rw [zj] at y1; cases y1
              | some j =>
                rw [zj] at y1
                obtain ⟨ag', g1, g2⟩ := kOf_some y1
                rw [h1] at g1
                cases g1
                rw [h2] at g2
                cases g2
                rcases (R.of a _ zj).2.2.2 with y2 | y2
                · exact y2
                · obtain ⟨o9, h9⟩ := R.bi _ y2.2
                  rw [q] at h9
                  cases h9
          | io o0 =>
            rw [s2 o0 q] at e
            cases e
            refine ⟨own2, ?_⟩
            obtain ⟨w', hw', c'⟩ := R.sl i _ q
            rw [h4] at hw'
            cases hw'
            exact c'.2
          | d x => rw [q] at h6; cases h6
          | rf _ _ => rw [q] at h6; cases h6
          | sc _ => rw [q] at h6; cases h6
          | q _ => rw [q] at h6; cases h6
          | lk _ => rw [q] at h6; cases h6
          | xr _ => rw [q] at h6; cases h6
    · rw [setIo_other hi] at e
      obtain ⟨v, hv, c⟩ := R.sl i a e
      exact ⟨v, hv, cm c hi fun j hj => anyC_env (nn j hj) e⟩
  have RR : RelF K B F2 O2 σ (setIo env L ios) ts te H' := by
    refine ⟨by rw [setIo_len]; exact R.ln, slots, tm (fun i hi a ha => anyC_te (nn i hi) ha) R.tm, fun a o e => ?_, fun a j z => ?_, R.b1.trans sF, fun b o hs ht e => ?_, fun b h1 h2 => ?_, fun b h => R'.b5 b (R.b5 b h), fun i hi => ?_, R.tb.1, R'.tb.2⟩
    · have e : (if ∃ i ∈ brS L, O a = some i then none else F' a) = some o := e
      split at e
      · cases e
      · exact R'.sf a o e
    · rcases o2inv a j z with ⟨z1, hj⟩ | ⟨k, ag, z1, h1, h2⟩
      · obtain ⟨q1, q2, q3, q4⟩ := R.of a j z1
        obtain ⟨s1, s2, s3⟩ := stay a j z1 hj
        exact ⟨s2, by rw [s1]; exact q2, q3, q4⟩
      · obtain ⟨q1, q2, q3, q4⟩ := R'.of a k z1
        refine ⟨?_, q2, ?_, ?_⟩
        · show (if ∃ i ∈ brS L, O a = some i then none else F' a) = none
          split
          · rfl
          · exact q1
        · have := iol j (ioS_mem h1 h2)
          omega
        · rcases q4 with y | y
          · exact .inl (Classical.byContradiction fun hb => R.b5 a hb y)
          · have y1 : (O a).bind (kOf L) = some k := y.1
            cases zj : O a with
            | none => rw [zj] at y1; cases y1
            | some i =>
              rw [zj] at y1
              obtain ⟨ag', g1, g2⟩ := kOf_some y1
              rw [h1] at g1
              cases g1
              rw [h2] at g2
              cases g2
              exact (R.of a _ zj).2.2.2
    · have h := R.b2 b o hs ht e
      cases z : O b with
      | none =>
        exact R'.b2 b o (by show (O b).bind (kOf L) = none; rw [z]; rfl) ht h
      | some j =>
        by_cases hj : j ∈ ioS L
        · rcases (R.of b j z).2.2.2 with y | y
          · rw [y] at e; cases e
          · rw [y.1] at hs; cases hs
        · rw [(stay b j z hj).1]; exact h
    · by_cases c : ∃ i ∈ brS L, O b = some i
      · exact absurd (if_pos c) h2
      · rw [f2p b c] at h2
        cases q : F b with
        | some u => exact R.b3 b h1 (by rw [q]; exact nofun)
        | none =>
          rcases R'.b3 b ((if_neg c).trans q) h2 with z | z
          · exact .inl (Classical.byContradiction fun hb => R.b5 b hb z)
          · have z : (O b).bind (kOf L) ≠ none := z
            cases zj : O b with
            | none => rw [zj] at z; exact absurd rfl z
            | some j =>
              rcases (R.of b j zj).2.2.2 with y | y
              · exact .inl y
              · exact .inr (by rw [y.1]; exact nofun)
    · obtain ⟨o, ho⟩ := R.bi i hi
      by_cases hj : i ∈ ioS L
      · obtain ⟨k, ag, o', w, h1, h2, h3, _⟩ := ioSlot i hj
        exact ⟨o', (setIo_at (env := env) (ios := ios) nd h1 h2 h3).2 o ho⟩
      · exact ⟨o, by rw [setIo_other hj]; exact ho⟩
  refine ⟨F2, O2, RR, dn, dna, xdk, fun v o h c => ?_⟩
  refine ⟨_, RR.pushOwn (fun a => O' a = some vs.length ∧ H a = none) (fun a p => ?_) (ow _ v o h c)⟩
  have ao : O a = none := by
    cases q : O a with
    | none => rfl
    | some j => exact absurd p.2 (R.of a j q).2.1.1
  obtain ⟨q1, q2, q3, q4⟩ := R'.of a _ p.1
  refine ⟨?_, ?_, q2, Classical.byContradiction fun hb => R.b5 a hb p.2⟩
  · show (match O' a with | some k => (L[k]?).bind (·.io) | none => match O a with | some j => if j ∈ ioS L then none else some j | none => none) = none
    rw [p.1]
    have : L[vs.length]? = none := List.getElem?_eq_none (by rw [g.length]; exact Nat.le_refl _)
    simp only [this]
    rfl
  · show (if ∃ i ∈ brS L, O a = some i then none else F' a) = none
    split
    · rfl
    · exact q1
theorem cvAs_len : ∀ {bs : List Bool} {as : List A} {env : Env} {L : List Ag}, cvAs bs as env = some L → as.length = bs.length
  | [], [], _, _, _ => rfl
  | io :: bs, a :: as, env, L, h => by
    unfold cvAs at h
    cases q : cvA io env a with
    | none => rw [q] at h; cases h
    | some g =>
      cases q2 : cvAs bs as env with
      | none => rw [q, q2] at h; cases h
      | some gs => exact congrArg (· + 1) (cvAs_len q2)
  | [], _ :: _, _, _, h => nomatch h
  | _ :: _, [], _, _, h => nomatch h
/-- the call of a def -/
theorem se_callGF {f : DF} {io : List Bool} {t : TA} {m : MA} {sp : Sp} {E : L2.St → XK} (hsp : ∀ σ vs H Q, vs.length = io.length → spMF K B.F f vs H Q (fun cls d H => W cls d σ H) → sp vs H Q (E σ)) (h : SA K B W t m) : SE K B W (fun σ H Q => t σ H fun vs H1 => sp (vs ++ []) H1 Q (E σ)) (mCall f io m) := by
  intro σ env ts te H Q R p
  refine h.thE R p fun as e p vs H1 hl R1 => ?_
  rw [List.append_nil]
  refine hsp σ vs H1 Q (by
    rw [hl]
    cases q : cvAs io as e with
    | none => simp only [q] at p; exact False.elim p
    | some L => exact cvAs_len q) ?_
  cases q : cvAs io as e with
  | none => simp only [q] at p; exact False.elim p
  | some L =>
    simp only [q] at p
    unfold doCall at p
    split at p
    case isFalse => exact False.elim p
    rename_i ok
    obtain ⟨F, O, R1⟩ := R1
    obtain ⟨O, R1, _, pr⟩ := args_cells (by rw [List.length_reverse, List.length_reverse]; exact hl) (fun a ha => cvAs_sim q a (List.mem_reverse.mp ha)) R1
    have pr := paired_rev pr
    rw [List.reverse_reverse, List.reverse_reverse] at pr
    have g := cvAs_ga R1 pr q
    unfold agOk at ok
    rw [Bool.and_eq_true] at ok
    have nd : (ioS L).Nodup := of_decide_eq_true ok.1
    have al := fun i (hi : i ∈ ioS L) => List.all_eq_true.mp ok.2 i hi
    have dj : ∀ i ∈ ioS L, i ∉ brS L := fun i hi => by
      have := al i hi
      simp only [Bool.and_eq_true, Bool.not_eq_true'] at this
      intro z
      rw [List.contains_eq_mem, decide_eq_false_iff_not] at this
      exact this.1 z
    have nn : ∀ i ∈ ioS L, anyC (isNest i) e te = false := fun i hi => by
      have := al i hi
      simp only [Bool.and_eq_true, Bool.not_eq_true'] at this
      exact this.2
    obtain ⟨kd, R2⟩ := call_start R1 g nd dj
    refine ⟨_, _, _, _, _, fun b o e => ?fl, by rw [List.length_map]; exact g.length, kd, R2, ?_⟩
    case fl =>
      have e := R1.b1 b o e
      show (if ∃ i ∈ brS L, O b = some i then H1 b else F b) = some o
      rw [if_neg]
      · exact e
      · rintro ⟨i, _, z⟩
        rw [(R1.of b i z).1] at e
        cases e
    cases q2 : f (L.map (·.a)) with
    | bad => simp only [q2] at p; exact False.elim p
    | ok r ios =>
      simp only [q2] at p
      split at p
      case isFalse => exact False.elim p
      rename_i tp
      intro F' O' v H' R' c
      obtain ⟨F2, O2, R3, dn, dna, xdk, ow⟩ := call_back R1 g nd dj nn R' (tp.imp id And.right)
      cases r with
      | d x => exact p v H' (R3.pushD (dn v x c (tp.imp id And.left)))
      | own o =>
        obtain ⟨O3, R4⟩ := ow v o c (tp.imp id And.left)
        exact p v H' ⟨F2, O3, R4⟩
      | _ => exact c.elim
    | ex x ios =>
      simp only [q2] at p
      split at p
      case isFalse => exact False.elim p
      rename_i tp
      intro cls d H' us F' O' R' du xi
      obtain ⟨F2, O2, R3, dn, dna, xdk, ow⟩ := call_back R1 g nd dj nn R' (tp.imp id And.right)
      have tf : (brS L).isEmpty = true ∨ tupAll (x.fs.map (·.2)) = true := by
        refine tp.imp id fun z => ?_
        have z := z.1
        generalize x.fs = l at z
        induction l with
        | nil => rfl
        | cons b l ih =>
          rw [List.all_cons, Bool.and_eq_true] at z
          show (tupD b.2 && tupAll (l.map (·.2))) = true
          rw [z.1, ih z.2]
          rfl
      exact p cls d H' us F2 O2 R3 (dna us _ du tf) ⟨xi.1, xi.2.imp id fun ⟨dx, e1, e2⟩ => ⟨dx, e1, xdk _ _ e2⟩⟩
theorem se_callG {f : DF} {io : List Bool} {t : TA} {m : MA} {sp : Sp} {E : L2.St → XK} (hsp : ∀ σ vs H Q, vs.length = io.length → spM K f vs H Q (fun cls d H => W cls d σ H) → sp vs H Q (E σ)) (h : SA K B W t m) : SE K B W (fun σ H Q => t σ H fun vs H1 => sp (vs ++ []) H1 Q (E σ)) (mCall f io m) :=
  se_callGF (fun σ vs H Q hv p => hsp σ vs H Q hv (spMZ.sp p)) h
end
end Tw

namespace Tw
open PySem PySem.Spec PyProof.Rows L2
/-! ### operators -/
section
variable {K : KW} {H : Hp}
mutual
theorem dn_dp : ∀ {v : V} {x : Dt}, Dn K H v x → x.plain = true → Dp K H v x
  | _, _, .non, _ => .non
  | _, _, .bl b, _ => .bl b
  | _, _, .int i, _ => .int i
  | _, _, .str x _, _ => .str x
  | _, _, .lst h hs, p => .lst (.inl (.inl h)) (dn_dpA hs (by simpa [PyData.plain] using p))
  | _, _, .tup h hs, p => .tup h.sq (dn_dpA hs (by simpa [PyData.plain] using p))
  | _, _, .dct _ _, p => by simp [PyData.plain] at p
theorem dn_dpA : ∀ {vs : List V} {xs : List Dt}, DnAll K H vs xs → PyData.plainAll xs = true → DpAll K H vs xs
  | _, _, .nil, _ => .nil
  | _, _, .cons h hs, p => by
    simp only [PyData.plainAll, Bool.and_eq_true] at p
    exact .cons (dn_dp h p.1) (dn_dpA hs p.2)
end
end
def d2 (env : Env) (a b : A) : Option (Dt × Dt) := match a.val env, b.val env with
  | some x, some y => some (x, y)
  | _, _ => none
open Classical in
noncomputable def addA : Env → A → A → Rs A := fun env a b => match d2 env a b with
  | some (.int i, .int j) => .ok (.d (.int (i + j))) env
  | some (.str x, .str y) => if x.length + y.length ≤ sizeLine then .ok (.d (.str (x ++ y))) env else .bad
  | some (.tuple xs, .tuple ys) => if xs.length + ys.length ≤ sizeLine then .ok (.d (.tuple (xs ++ ys))) env else .bad
  | some (.list _, .list _) => (match a.lstT? env, b.lstT? env with
    | some xs, some ys => if xs.length + ys.length ≤ sizeLine then .ok (.own (.l (xs ++ ys))) env else .bad
    | _, _ => .bad)
  | _ => .bad
open Classical in
noncomputable def mulA : Env → A → A → Rs A := fun env a b => match d2 env a b with
  | some (.int i, .int j) => if CMul i j then .ok (.d (.int (i * j))) env else .bad
  | some (.str x, .int n) => if MulOk x n ∧ (Txt.mul x n).length ≤ sizeLine then .ok (.d (.str (Txt.mul x n))) env else .bad
  | some (.list _, .int n) => (match a.lstT? env with
    | some xs => if -(2 ^ 63) ≤ n ∧ n < 2 ^ 63 ∧ xs.length * n.toNat ≤ sizeLine then .ok (.own (.l (List.replicate n.toNat xs).flatten)) env else .bad
    | none => .bad)
  | _ => .bad
def subD : Dt → Dt → Option Dt
  | .int i, .int j => some (.int (i - j))
  | _, _ => none
def divD : Dt → Dt → Option Dt
  | .int i, .int j => if 0 < j ∧ j < 1073741824 then some (.int (i / j)) else none
  | _, _ => none
def modD : Dt → Dt → Option Dt
  | .int i, .int j => if 0 < j then some (.int (i % j)) else none
  | _, _ => none
def powD : Dt → Dt → Option Dt
  | .int i, .int j => if 0 ≤ j ∧ j ≤ 1000000 ∧ i.natAbs < 2 ^ 64 then some (.int (i ^ j.toNat)) else none
  | _, _ => none
def negD : Dt → Option Dt
  | .int i => some (.int (-i))
  | _ => none
def ltD : Dt → Dt → Option Dt
  | .int i, .int j => some (.bool (decide (i < j)))
  | .str x, .str y => some (.bool (decide (x.cps.toList < y.cps.toList)))
  | _, _ => none
def leD : Dt → Dt → Option Dt
  | .int i, .int j => some (.bool (decide (i ≤ j)))
  | _, _ => none
def gtD : Dt → Dt → Option Dt
  | .int i, .int j => some (.bool (decide (j < i)))
  | _, _ => none
def geD : Dt → Dt → Option Dt
  | .int i, .int j => some (.bool (decide (j ≤ i)))
  | _, _ => none
def emptyEq : Dt → Dt → Bool
  | .list _, .list [] => true
  | .tuple _, .tuple [] => true
  | _, _ => false
def okEq (x y : Dt) : Bool := (x.plain && y.plain && decide (min x.depth y.depth ≤ 190)) || emptyEq x y
def eqD (x y : Dt) : Option Dt := if okEq x y = true then some (.bool (PyData.eqv x y)) else none
def neD (x y : Dt) : Option Dt := if okEq x y = true then some (.bool (!PyData.eqv x y)) else none
def isNoneD : Dt → Bool
  | .none => true
  | _ => false
def isD (x y : Dt) : Option Dt := match y with
  | .none => some (.bool (isNoneD x))
  | _ => none
def notD (x y : Dt) : Option Dt := match y with
  | .none => some (.bool (!isNoneD x))
  | _ => none
/-- the items of a list or tuple -/
def seqD : Dt → Option (List Dt)
  | .list xs => some xs
  | .tuple xs => some xs
  | _ => none
def strsD : List Dt → Option (List Str)
  | [] => some []
  | .str s :: r => (strsD r).map (s :: ·)
  | _ => none
def inD (neg : Bool) (x y : Dt) : Option Dt := match y with
  | .str z => match x with
    | .str c => if c.cps.size = 1 then some (.bool (if neg then !decide (c.cps.toList.headD 0 ∈ z.cps.toList) else decide (c.cps.toList.headD 0 ∈ z.cps.toList))) else none
    | _ => none
  | y => match seqD y with
    | some ds => if x.plain = true ∧ PyData.plainAll ds = true ∧ min (PyData.depthAll ds) x.depth ≤ 190 then some (.bool (if neg then !(ds.any fun z => PyData.eqv z x) else ds.any fun z => PyData.eqv z x)) else
      (match strsD ds with
      | some ss => some (.bool (if neg then !(ss.any fun s => PyData.eqv (.str s) x) else ss.any fun s => PyData.eqv (.str s) x))
      | none => none)
    | none => none
section
variable {K : KW} {B : Bs} {W : WX}
theorem val_tup {env : Env} {a : A} {xs : List Dt} (h : a.val env = some (.tuple xs)) : a = .d (.tuple xs) := by
  have g2 : (a.ow env).bind Ow.dt = some (.tuple xs) → a = .d (.tuple xs) := fun h => by
    cases e : a.ow env with
    | none => rw [e] at h; cases h
    | some o => rw [e] at h; cases o <;> cases h
  cases a with
  | d x => cases h; rfl
  | own o => exact g2 h
  | io o => exact g2 h
  | rf i p => exact g2 h
  | sc n => exact g2 h
  | q n => exact g2 h
  | lk n => cases h
  | xr n => exact g2 h
theorem d2_some {env : Env} {a b : A} {x y : Dt} (h : d2 env a b = some (x, y)) : a.val env = some x ∧ b.val env = some y := by
  unfold d2 at h
  cases e1 : a.val env with
  | none => rw [e1] at h; cases h
  | some x' =>
    cases e2 : b.val env with
    | none => rw [e1, e2] at h; cases h
    | some y' => rw [e1, e2] at h; cases h; exact ⟨rfl, rfl⟩
theorem so_add : SO2 K B W (rAddU K) addA := by
  intro σ env ts te H Q v u a b R p
  obtain ⟨F, O, R⟩ := R
  unfold addA at p
  split at p
  · rename_i i j e
    obtain ⟨e1, e2⟩ := d2_some e
    have c1 := cell_val R R.tm.2.1 e1
    have c2 := cell_val R R.tm.1 e2
    cases c1
    cases c2
    exact .inl ⟨i, j, rfl, rfl, p _ H (R.pop.pop.pushD (.int _))⟩
  · rename_i x y e
    obtain ⟨e1, e2⟩ := d2_some e
    split at p
    · rename_i hl
      have c1 := cell_val R R.tm.2.1 e1
      have c2 := cell_val R R.tm.1 e2
      cases c1
      cases c2
      refine .inr (.inl ⟨x, y, rfl, rfl, hl, p _ H (R.pop.pop.pushD (.str _ ?_))⟩)
      rw [Str.length_append]; exact hl
    · exact False.elim p
  · rename_i xs ys e
    obtain ⟨e1, e2⟩ := d2_some e
    split at p
    · rename_i hl
      have a1 := val_tup e1
      have a2 := val_tup e2
      subst a1
      subst a2
      obtain ⟨q1, vs, rfl, t1, d1⟩ := dn_tup (show Dn K F v (.tuple xs) from R.tm.2.1)
      obtain ⟨q2, us, rfl, t2, d2⟩ := dn_tup (show Dn K F u (.tuple ys) from R.tm.1)
      refine .inr (.inr (.inl ⟨q1, q2, vs, us, rfl, rfl, Same.sqT' R.sf t1.sq, Same.sqT' R.sf t2.sq, by rw [d1.length, d2.length]; exact hl, fun z => ?_, fun _ z => ?_, fun _ _ r ob nr hob => ?_⟩))
      · subst z
        cases d1
        exact p _ H (R.pop.pop.pushD (.tup t2 d2))
      · subst z
        cases d2
        rw [List.append_nil] at p
        exact p _ H (R.pop.pop.pushD (.tup t1 d1))
      · exact p _ _ (R.pop.pop.pushT nr hob (d1.app d2))
    · exact False.elim p
  · rename_i e
    cases e1 : a.lstT? env with
    | none => simp only [e1] at p; exact False.elim p
    | some xs =>
      cases e2 : b.lstT? env with
      | none => simp only [e1, e2] at p; exact False.elim p
      | some ys =>
        simp only [e1, e2] at p
        split at p
        · rename_i hl
          obtain ⟨q1, vs, rfl, h1, d1⟩ := cell_lstT R R.tm.2.1 e1
          obtain ⟨q2, us, rfl, h2, d2⟩ := cell_lstT R R.tm.1 e2
          exact .inr (.inr (.inr ⟨q1, q2, vs, us, rfl, rfl, h1, h2, by rw [d1.length, d2.length]; exact hl, fun r nr => p _ _ (R.pop.pop.pushL nr (d1.app d2))⟩))
        · exact False.elim p
  · exact False.elim p
theorem dn_rep {F : Hp} {vs : List V} {xs : List Dt} (d : DnAll K F vs xs) : ∀ n : Nat, DnAll K F (List.replicate n vs).flatten (List.replicate n xs).flatten
  | 0 => .nil
  | n + 1 => by
    rw [List.replicate_succ, List.replicate_succ, List.flatten_cons, List.flatten_cons]
    exact d.app (dn_rep d n)
theorem so_mul : SO2 K B W rMulU mulA := by
  intro σ env ts te H Q v u a b R p
  obtain ⟨F, O, R⟩ := R
  unfold mulA at p
  split at p
  · rename_i i j e
    obtain ⟨e1, e2⟩ := d2_some e
    have c1 := cell_val R R.tm.2.1 e1
    have c2 := cell_val R R.tm.1 e2
    cases c1
    cases c2
    split at p
    · rename_i hl
      exact .inl ⟨i, j, rfl, rfl, hl, p _ H (R.pop.pop.pushD (.int _))⟩
    · exact False.elim p
  · rename_i x n e
    obtain ⟨e1, e2⟩ := d2_some e
    have c1 := cell_val R R.tm.2.1 e1
    have c2 := cell_val R R.tm.1 e2
    cases c1
    cases c2
    split at p
    · rename_i hl
      exact .inr (.inl ⟨x, n, rfl, rfl, hl.1, p _ H (R.pop.pop.pushD (.str _ hl.2))⟩)
    · exact False.elim p
  · rename_i xs0 n e
    obtain ⟨e1, e2⟩ := d2_some e
    have c2 := cell_val R R.tm.1 e2
    cases c2
    cases e3 : a.lstT? env with
    | none => simp only [e3] at p; exact False.elim p
    | some xs =>
      simp only [e3] at p
      split at p
      · rename_i hl
        obtain ⟨q1, vs, rfl, h1, d1⟩ := cell_lstT R R.tm.2.1 e3
        exact .inr (.inr ⟨q1, n, vs, rfl, rfl, h1, hl.1, hl.2.1, by rw [d1.length]; exact hl.2.2, fun r nr => p _ _ (R.pop.pop.pushL nr (dn_rep d1 _))⟩)
      · exact False.elim p
  · exact False.elim p
theorem os_sub : OpS K rSubI subD := by
  intro H x y dx dy z Q h1 h2 h
  cases h1 <;> cases h2 <;> cases h
  exact ⟨rfl, fun q => ⟨_, _, rfl, rfl, q⟩⟩
theorem os_div : OpS K rDivI divD := by
  intro H x y dx dy z Q h1 h2 h
  unfold divD at h
  split at h
  · split at h
    · rename_i c
      cases h1
      cases h2
      cases h
      exact ⟨rfl, fun q => ⟨_, _, rfl, rfl, c, q⟩⟩
    · cases h
  · cases h
theorem os_mod : OpS K rModI modD := by
  intro H x y dx dy z Q h1 h2 h
  unfold modD at h
  split at h
  · split at h
    · rename_i c
      cases h1
      cases h2
      cases h
      exact ⟨rfl, fun q => ⟨_, _, rfl, rfl, c, q⟩⟩
    · cases h
  · cases h
theorem os_pow : OpS K rPowI powD := by
  intro H x y dx dy z Q h1 h2 h
  unfold powD at h
  split at h
  · split at h
    · rename_i c
      cases h1
      cases h2
      cases h
      exact ⟨rfl, fun q => ⟨_, _, rfl, rfl, c, q⟩⟩
    · cases h
  · cases h
theorem os_lt : OpS K rLtU ltD := by
  intro H x y dx dy z Q h1 h2 h
  cases h1 <;> cases h2 <;> cases h
  · exact ⟨rfl, fun q => .inl ⟨_, _, rfl, rfl, q⟩⟩
  · exact ⟨rfl, fun q => .inr ⟨_, _, rfl, rfl, q⟩⟩
theorem os_gt : OpS K rGtI gtD := by
  intro H x y dx dy z Q h1 h2 h
  cases h1 <;> cases h2 <;> cases h
  exact ⟨rfl, fun q => ⟨_, _, rfl, rfl, q⟩⟩
theorem os_ge : OpS K rGeI geD := by
  intro H x y dx dy z Q h1 h2 h
  cases h1 <;> cases h2 <;> cases h
  exact ⟨rfl, fun q => ⟨_, _, rfl, rfl, q⟩⟩
theorem eqvAll_nil : ∀ xs : List Dt, PyData.eqvAll xs [] = xs.isEmpty
  | [] => by rw [PyData.eqvAll]; rfl
  | x :: xs => by rw [PyData.eqvAll]; rfl
theorem eq_empty {H : Hp} {x y : V} {dx dy : Dt} (h1 : Dn K H x dx) (h2 : Dn K H y dy) (h : emptyEq dx dy = true) :
    ∃ a b xs, x = .ref a ∧ y = .ref b ∧ ((SqL K H a xs ∧ SqL K H b []) ∨ (SqT K H a xs ∧ SqT K H b [])) ∧ PyData.eqv dx dy = xs.isEmpty := by
  cases h1 with
  | lst g1 d1 =>
    cases h2 with
    | lst g2 d2 =>
      cases d2 with
      | cons _ _ => cases h
      | nil =>
        refine ⟨_, _, _, rfl, rfl, .inl ⟨.inl (.inl g1), .inl (.inl g2)⟩, ?_⟩
        rw [PyData.eqv, eqvAll_nil]
        cases d1 <;> rfl
    | _ => cases h
  | tup g1 d1 =>
    cases h2 with
    | tup g2 d2 =>
      cases d2 with
      | cons _ _ => cases h
      | nil =>
        refine ⟨_, _, _, rfl, rfl, .inr ⟨g1.sq, g2.sq⟩, ?_⟩
        rw [PyData.eqv, eqvAll_nil]
        cases d1 <;> rfl
    | _ => cases h
  | _ => cases h
theorem os_eq : OpS K (rEqU K) eqD := by
  intro H x y dx dy z Q h1 h2 h
  unfold eqD at h
  split at h
  · rename_i c
    cases h
    refine ⟨rfl, fun q => ?_⟩
    unfold okEq at c
    rw [Bool.or_eq_true, Bool.and_eq_true, Bool.and_eq_true, decide_eq_true_eq] at c
    rcases c with ⟨⟨p1, p2⟩, d⟩ | c
    · exact .inl ⟨dx, dy, dn_dp h1 p1, dn_dp h2 p2, p1, p2, d, q⟩
    · obtain ⟨a, b, xs, e1, e2, e3, e4⟩ := eq_empty h1 h2 c
      exact .inr ⟨a, b, xs, e1, e2, e3, by rw [← e4]; exact q⟩
  · cases h
theorem os_ne : OpS K (rNeU K) neD := by
  intro H x y dx dy z Q h1 h2 h
  unfold neD at h
  split at h
  · rename_i c
    cases h
    refine ⟨rfl, fun q => ?_⟩
    unfold okEq at c
    rw [Bool.or_eq_true, Bool.and_eq_true, Bool.and_eq_true, decide_eq_true_eq] at c
    rcases c with ⟨⟨p1, p2⟩, d⟩ | c
    · exact .inl ⟨dx, dy, dn_dp h1 p1, dn_dp h2 p2, p1, p2, d, q⟩
    · obtain ⟨a, b, xs, e1, e2, e3, e4⟩ := eq_empty h1 h2 c
      exact .inr ⟨a, b, xs, e1, e2, e3, by rw [← e4]; exact q⟩
  · cases h
theorem strsD_dn {H : Hp} : ∀ {vs : List V} {ds : List Dt} {ss : List Str}, DnAll K H vs ds → strsD ds = some ss → vs = ss.map V.str
  | _, [], _, .nil, h => by cases h; rfl
  | _, d :: ds, ss, .cons h1 hs, h => by
    cases h1 with
    | str s hl =>
      unfold strsD at h
      cases q : strsD ds with
      | none => rw [q] at h; cases h
      | some r =>
        rw [q] at h
        cases h
        rw [strsD_dn hs q]
        rfl
    | _ => cases h
theorem inA_eqv {H : Hp} {x : V} {dx : Dt} (h : Dn K H x dx) : ∀ ss : List Str, inA x ss = ss.any fun s => PyData.eqv (.str s) dx
  | [] => by cases h <;> rfl
  | s :: ss => by
    have ih := inA_eqv h ss
    cases h with
    | str y hl =>
      show (s :: ss).contains y = ((PyData.eqv (.str s) (.str y)) || ss.any fun s => PyData.eqv (.str s) (.str y))
      rw [← ih]
      show (s :: ss).contains y = ((PyData.eqv (.str s) (.str y)) || ss.contains y)
      rw [List.contains_cons, PyData.eqv]
      congr 1
      rw [Bool.eq_iff_iff, beq_iff_eq, beq_iff_eq]
      exact eq_comm
    | _ => simpa [inA, PyData.eqv] using ih
theorem dn_av {H : Hp} {x : V} {dx : Dt} (h : Dn K H x dx) : AV K H x := by
  cases h with
  | non => exact .non
  | bl b => exact .bl b
  | int i => exact .int i
  | str x h => exact .str x h
  | lst h hs => exact .lst (.inl (.inl h))
  | tup h hs => exact .tup h.sq
  | dct h hs => exact .dct h
theorem os_in (neg : Bool) : OpS K (rInU K neg) (inD neg) := by
  intro H x y dx dy z Q h1 h2 h
  have seq : ∀ ds, (∃ (p : Addr) (vs : List V), y = .ref p ∧ (SqL K H p vs ∨ SqT K H p vs) ∧ DnAll K H vs ds) → (PyData.plainAll ds = true → (Dp K H y (.list ds) ∨ Dp K H y (.tuple ds))) →
      (if dx.plain = true ∧ PyData.plainAll ds = true ∧ min (PyData.depthAll ds) dx.depth ≤ 190 then some (PyData.bool (if neg then !(ds.any fun z => PyData.eqv z dx) else ds.any fun z => PyData.eqv z dx)) else
      (match strsD ds with
      | some ss => some (.bool (if neg then !(ss.any fun s => PyData.eqv (.str s) dx) else ss.any fun s => PyData.eqv (.str s) dx))
      | none => none)) = some z → flatD z = true ∧ (Q (vOf z) H → rInU K neg x y H Q) := by
    intro ds ⟨p, vs, e, sq, da⟩ hd h
    split at h
    · rename_i c
      cases h
      exact ⟨rfl, fun q => .inl ⟨dx, ds, dn_dp h1 c.1, hd c.2.1, c.1, c.2.1, c.2.2, q⟩⟩
    · cases q : strsD ds with
      | none => rw [q] at h; cases h
      | some ss =>
        rw [q] at h
        cases h
        refine ⟨rfl, fun g => .inr (.inl ⟨p, ss, e, ?_, dn_av h1, ?_⟩)⟩
        · rw [← strsD_dn da q]; exact sq
        · rw [inA_eqv h1]; exact g
  cases h2 with
  | str s hl =>
    cases h1 with
    | str c hc =>
      unfold inD at h
      simp only at h
      split at h
      · rename_i c1
        cases h
        refine ⟨rfl, fun g => .inr (.inr ?_)⟩
        have ec : c = ⟨#[c.cps.toList.headD 0]⟩ := by
          obtain ⟨arr⟩ := c
          obtain ⟨l⟩ := arr
          match l, c1 with
          | [x], _ => rfl
        cases neg with
        | false => exact ⟨_, s, by rw [← ec], rfl, g⟩
        | true => exact ⟨_, s, by rw [← ec], rfl, g⟩
      · cases h
    | _ => cases h
  | lst g d => exact seq _ ⟨_, _, rfl, .inl (.inl (.inl g)), d⟩ (fun p => .inl (.lst (.inl (.inl g)) (dn_dpA d p))) h
  | tup g d => exact seq _ ⟨_, _, rfl, .inr g.sq, d⟩ (fun p => .inr (.tup g.sq (dn_dpA d p))) h
  | _ => cases h
end
end Tw

namespace Tw
open PySem PySem.Spec PyProof.Rows L2
/-! ### displays -/
def dAll : List A → Option (List Dt)
  | [] => some []
  | .d x :: as => (dAll as).map (x :: ·)
  | _ => none
def mTup (m : MA) : ME := fun env te => (m env te).bind fun as e => match dAll as with
  | some xs => if xs.length ≤ sizeLine then .ok (.d (.tuple xs)) e else .bad
  | none => .bad
def mLst (m : MA) : ME := fun env te => (m env te).bind fun as e => match dAll as with
  | some xs => if xs.length ≤ sizeLine then .ok (.own (.l xs)) e else .bad
  | none => .bad
/-! ### subscripts -/
def ixA : Env → A → A → Rs A := fun env a b => match b.val env with
  | some (.int i) => (match a.tup? with
    | some xs => (match atI xs i with
      | some x => .ok (.d x) env
      | none => .bad)
    | none => match a.lst? env with
      | some xs => (match atI xs i with
        | some x => .ok (.d x) env
        | none => .bad)
      | none => match a.val env with
        | some (.str z) => (match atI z.cps.toList i with
          | some c => .ok (.d (.str ⟨#[c]⟩)) env
          | none => .bad)
        | _ => match a with
          | .rf j none => (match owAt env j with
            | some (.ll xss) => (match ixN xss.length i with
              | some n => .ok (.rf j (some (.inl n))) env
              | none => .bad)
            | _ => .bad)
          | _ => .bad)
  | _ => .bad
abbrev MO := Env → List A → Rs (Option Int)
def mNoPart : MO := fun env _ => .ok none env
def mPart (m : ME) : MO := fun env te => (m env te).bind fun a e => match a.val e with
  | some (.int i) => .ok (some i) e
  | _ => .bad
def cutD {α : Type} (xs : List α) (lo hi : Option Int) : List α := (xs.drop (HT.sIx xs.length 0 lo)).take (HT.sIx xs.length xs.length hi - HT.sIx xs.length 0 lo)
def slA (env : Env) (a : A) (lo hi : Option Int) : Rs A := match a with
  | .d (.tuple xs) => .ok (.d (.tuple (cutD xs lo hi))) env
  | .d (.str z) => if (cutS z lo hi).length ≤ sizeLine then .ok (.d (.str (cutS z lo hi))) env else .bad
  | a => match a.lst? env with
    | some xs => .ok (.own (.l (cutD xs lo hi))) env
    | none => .bad
def mSl (m : ME) (lo hi : MO) : ME := fun env te => (m env te).bind fun a e1 => (lo e1 (a :: te)).bind fun l e2 => (hi e2 (a :: te)).bind fun u e3 => slA e3 a l u
def revA (env : Env) (a : A) : Rs A := match a with
  | .d (.tuple xs) => .ok (.d (.tuple xs.reverse)) env
  | _ => .bad
def revLA (env : Env) (a : A) : Rs A := match a.lst? env with
  | some xs => .ok (.own (.l xs.reverse)) env
  | none => .bad
/-! ### built-ins -/
def one (f : Env → A → Rs A) : Env → List A → Rs A := fun env as => match as with
  | [a] => f env a
  | _ => .bad
def lenD : Dt → Option Nat
  | .str z => some z.length
  | .list xs => some xs.length
  | .tuple xs => some xs.length
  | .dict kvs => some kvs.length
  | _ => none
def lenA : Env → A → Rs A := fun env a => match a.lst? env with
  | some xs => .ok (.d (.int xs.length)) env
  | none => match a.val env with
    | some x => (match lenD x with
      | some n => .ok (.d (.int n)) env
      | none => .bad)
    | none => .bad
def tupA : Env → A → Rs A := fun env a => match a with
  | .d (.tuple xs) => .ok (.d (.tuple xs)) env
  | a => match a.lst? env with
    | some xs => .ok (.d (.tuple xs)) env
    | none => .bad
def lstA : Env → A → Rs A := fun env a => match a.tup? with
  | some xs => .ok (.own (.l xs)) env
  | none => match a.lst? env with
    | some xs => .ok (.own (.l xs)) env
    | none => .bad
def boolsD : List Dt → Option (List Bool)
  | [] => some []
  | .bool b :: r => (boolsD r).map (b :: ·)
  | _ => none
def allA : Env → A → Rs A := fun env a => match (a.lst? env).bind boolsD with
  | some bs => .ok (.d (.bool (bs.all id))) env
  | none => .bad
def anyA : Env → A → Rs A := fun env a => match (a.lst? env).bind boolsD with
  | some bs => .ok (.d (.bool (bs.any id))) env
  | none => .bad
def tyD : Dt → String
  | .none => "NoneType"
  | .bool _ => "bool"
  | .int _ => "int"
  | .str _ => "str"
  | .list _ => "list"
  | .tuple _ => "tuple"
  | .dict _ => "dict"
def mIsi (T : String) (m : ME) : ME := fun env te => (m env te).bind fun a e => match a.val e with
  | some x => (match kitB (tyD x) T with
    | some b => .ok (.d (.bool b)) e
    | none => .bad)
  | none => .bad
def absD : Dt → Option Dt
  | .int i => some (.int (if i < 0 then -i else i))
  | _ => none
def intD : Dt → Option Dt
  | .int i => some (.int i)
  | .bool b => some (.int (if b then 1 else 0))
  | _ => none
def min2A : Env → List A → Rs A := fun env as => match as with
  | [.d (.int i), .d (.int j)] => .ok (.d (.int (if j < i then j else i))) env
  | _ => .bad
def max2A : Env → List A → Rs A := fun env as => match as with
  | [.d (.int i), .d (.int j)] => .ok (.d (.int (if j > i then j else i))) env
  | _ => .bad
def joinS (s : Str) (env : Env) (b : A) : Rs A := match ((match b.tup? with | some xs => some xs | none => b.lst? env)).bind strsD with
  | some ys => if (ys.map (·.length)).sum + ys.length * s.length ≤ 16777216 ∧ (Txt.join s ys).length ≤ sizeLine then .ok (.d (.str (Txt.join s ys))) env else .bad
  | none => .bad
def mJoin (ma mb : ME) : ME := fun env te => (ma env te).bind fun a e => match a with
  | .d (.str s) => (mb e (.d (.str s) :: te)).bind fun b e2 => joinS s e2 b
  | _ => .bad
section
variable {K : KW} {B : Bs} {W : WX}
theorem dAll_sim : ∀ {as : List A} {xs : List Dt}, dAll as = some xs → ∀ a ∈ as, simA a = true
  | [], _, _, _, h => nomatch h
  | .d x :: as, xs, h, a, hm => by
    unfold dAll at h
    cases q : dAll as with
    | none => rw [q] at h; cases h
    | some ys =>
      rcases List.mem_cons.mp hm with rfl | hm
      · rfl
      · exact dAll_sim q a hm
  | .own _ :: _, _, h, _, _ => nomatch h
  | .io _ :: _, _, h, _, _ => nomatch h
  | .rf _ _ :: _, _, h, _, _ => nomatch h
  | .sc _ :: _, _, h, _, _ => nomatch h
  | .q _ :: _, _, h, _, _ => nomatch h
  | .lk _ :: _, _, h, _, _ => nomatch h
  | .xr _ :: _, _, h, _, _ => nomatch h
theorem dAll_dn {F H : Hp} {O : Addr → Option Nat} {σ : List (Option V)} : ∀ {vs : List V} {as : List A} {xs : List Dt}, Paired (fun v a => CellO K B F H O σ 0 v a) vs as → dAll as = some xs → DnAll K F vs xs
  | [], [], _, .nil, h => by cases h; exact .nil
  | v :: vs, .d x :: as, xs, .cons c r, h => by
    unfold dAll at h
    cases q : dAll as with
    | none => rw [q] at h; cases h
    | some ys =>
      rw [q] at h
      cases h
      exact .cons c (dAll_dn r q)
  | _ :: _, .own _ :: _, _, .cons _ _, h => nomatch h
  | _ :: _, .io _ :: _, _, .cons _ _, h => nomatch h
  | _ :: _, .rf _ _ :: _, _, .cons _ _, h => nomatch h
  | _ :: _, .sc _ :: _, _, .cons _ _, h => nomatch h
  | _ :: _, .q _ :: _, _, .cons _ _, h => nomatch h
  | _ :: _, .lk _ :: _, _, .cons _ _, h => nomatch h
  | _ :: _, .xr _ :: _, _, .cons _ _, h => nomatch h
theorem args_dn {σ : L2.St} {env : Env} {ts : List V} {te : List A} {H : Hp} {vs : List V} {as : List A} {xs : List Dt} (hl : vs.length = as.length) (R : Rel K B σ env (vs.reverse ++ ts) (as.reverse ++ te) H) (h : dAll as = some xs) :
    ∃ F O, RelF K B F O σ env ts te H ∧ DnAll K F vs xs := by
  obtain ⟨F, O, R⟩ := R
  obtain ⟨O, R, _, pr⟩ := args_cells (by rw [List.length_reverse, List.length_reverse]; exact hl) (fun a ha => dAll_sim h a (List.mem_reverse.mp ha)) R
  have pr := paired_rev pr
  rw [List.reverse_reverse, List.reverse_reverse] at pr
  exact ⟨F, O, R, dAll_dn pr h⟩
theorem se_tup {t : TA} {m : MA} (h : SA K B W t m) : SE K B W (tTupF t) (mTup m) := by
  intro σ env ts te H Q R p
  refine h.thE R p fun as e p vs H1 hl R1 => ?_
  cases q : dAll as with
  | none => simp only [q] at p; exact False.elim p
  | some xs =>
    simp only [q] at p
    split at p
    · rename_i hz
      obtain ⟨F, O, R2, d⟩ := args_dn hl R1 q
      exact ⟨by rw [d.length]; exact hz, fun l ob nl hob => p _ _ (R2.pushT nl hob d)⟩
    · exact False.elim p
theorem se_lst {t : TA} {m : MA} (h : SA K B W t m) : SE K B W (tLst t) (mLst m) := by
  intro σ env ts te H Q R p
  refine h.thE R p fun as e p vs H1 hl R1 => ?_
  cases q : dAll as with
  | none => simp only [q] at p; exact False.elim p
  | some xs =>
    simp only [q] at p
    split at p
    · rename_i hz
      obtain ⟨F, O, R2, d⟩ := args_dn hl R1 q
      exact ⟨by rw [d.length]; exact hz, fun l nl => p _ _ (R2.pushL nl d)⟩
    · exact False.elim p
theorem dn_atI {F : Hp} {vs : List V} {xs : List Dt} {i : Int} {x : Dt} (d : DnAll K F vs xs) (h : atI xs i = some x) : ∃ v, atI vs i = some v ∧ Dn K F v x := by
  unfold atI at h ⊢
  rw [d.length]
  cases q : ixN xs.length i with
  | none => rw [q] at h; cases h
  | some j =>
    rw [q] at h
    obtain ⟨v, hv, dv⟩ := d.get h
    exact ⟨v, hv, dv⟩
theorem so_ix : SO2 K B W (rIx K) ixA := by
  intro σ env ts te H Q v u a b R p
  obtain ⟨F, O, R⟩ := R
  unfold ixA at p
  split at p
  · rename_i i e
    have c2 := cell_val R R.tm.1 e
    cases c2
    cases e1 : a.tup? with
    | some xs =>
      simp only [e1] at p
      cases e2 : atI xs i with
      | none => simp only [e2] at p; exact False.elim p
      | some x =>
        simp only [e2] at p
        obtain ⟨q1, vs, rfl, t1, _, d1⟩ := cell_tup R R.tm.2.1 e1
        obtain ⟨w, hw, dw⟩ := dn_atI d1 e2
        exact .inr (.inl ⟨q1, vs, i, w, rfl, rfl, t1, hw, p _ H (R.pop.pop.pushD dw)⟩)
    | none =>
      simp only [e1] at p
      cases e3 : a.lst? env with
      | some xs =>
        simp only [e3] at p
        cases e2 : atI xs i with
        | none => simp only [e2] at p; exact False.elim p
        | some x =>
          simp only [e2] at p
          obtain ⟨q1, vs, rfl, t1, d1⟩ := cell_lst R R.tm.2.1 e3
          obtain ⟨w, hw, dw⟩ := dn_atI d1 e2
          exact .inl ⟨q1, vs, i, w, rfl, rfl, t1, hw, p _ H (R.pop.pop.pushD dw)⟩
      | none =>
        simp only [e3] at p
        split at p
        · rename_i z e4
          have c1 := cell_val R R.tm.2.1 e4
          cases c1 with
          | str _ hz =>
            cases e2 : atI z.cps.toList i with
            | none => simp only [e2] at p; exact False.elim p
            | some c =>
              simp only [e2] at p
              exact .inr (.inr ⟨z, i, c, rfl, rfl, hz, e2, p _ H (R.pop.pop.pushD (.str _ (by show (1 : Nat) ≤ sizeLine; decide)))⟩)
        · split at p
          · rename_i j _
            cases e5 : owAt env j with
            | none => simp only [e5] at p; exact False.elim p
            | some o =>
              cases o with
              | ll xss =>
                simp only [e5] at p
                cases e6 : ixN xss.length i with
                | none => simp only [e6] at p; exact False.elim p
                | some n =>
                  simp only [e6] at p
                  obtain ⟨w, hw, ew⟩ := id R.tm.2.1
                  have ew : v = w := ew
                  subst ew
                  obtain ⟨q1, vs, rfl, oq, h1, _, _, pr⟩ := R.owAt e5 hw
                  have ln := pr.length
                  have nl : n < vs.length := by
                    rw [ln]
                    unfold ixN at e6
                    split at e6
                    · split at e6
                      · cases e6; omega
                      · cases e6
                    · split at e6
                      · cases e6; omega
                      · cases e6
                  have e7 : atI vs i = some vs[n] := by
                    unfold atI
                    rw [ln, e6]
                    exact List.getElem?_eq_getElem nl
                  have R2 := R.pop.pop
                  refine .inl ⟨q1, vs, i, vs[n], rfl, rfl, .inl (.inl h1), e7, p _ H ⟨F, _, R2.push (a := .rf j (some (.inl n))) ⟨.ref q1, hw, q1, rfl, ?_, .inl ⟨vs, n, rfl, Int.natCast_nonneg n, h1, by simp⟩⟩⟩⟩
                  have jl := (List.getElem?_eq_some_iff.mp hw).1
                  have s1 : ∀ n, j ≠ σ.length + n := fun n => by omega
                  show (if (if O q1 = some (σ.length + (V.ref q1 :: ts).length) then none else O q1) = some (σ.length + ts.length) then none else (if O q1 = some (σ.length + (V.ref q1 :: ts).length) then none else O q1)) = some j
                  rw [oq, if_neg (fun z => s1 _ (Option.some.inj z)), if_neg (fun z => s1 _ (Option.some.inj z))]
              | l _ => simp only [e5] at p; exact False.elim p
              | dc _ => simp only [e5] at p; exact False.elim p
              | dl _ => simp only [e5] at p; exact False.elim p
              | x _ => simp only [e5] at p; exact False.elim p
          · exact False.elim p
  · exact False.elim p
/-! ### slices -/
def PO' (K : KW) (B : Bs) (W : WX) (σ : L2.St) (ts : List V) (te : List A) (Q : Option Int → Hp → Prop) : Rs (Option Int) → Prop
  | .ok b e => ∀ H, Rel K B σ e ts te H → Q b H
  | .ex x e => XPost K B W σ ts te x e
  | .bad => False
def SPo (K : KW) (B : Bs) (W : WX) (t : TO) (m : MO) : Prop := ∀ σ env ts te H Q, Rel K B σ env ts te H → PO' K B W σ ts te Q (m env te) → t σ H Q
theorem so_none : SPo K B W tNoPart mNoPart := fun σ env ts te H Q R p => p H R
theorem so_part {t : TE} {m : ME} (h : SE K B W t m) : SPo K B W (tPart t) (mPart m) := by
  intro σ env ts te H Q R p
  refine h σ env ts te H _ R ?_
  have p : PO' K B W σ ts te Q ((m env te).bind fun a e => match a.val e with | some (.int i) => .ok (some i) e | _ => .bad) := p
  cases q : m env te with
  | ok a e =>
    rw [q] at p
    simp only [Rs.bind_ok] at p
    intro v H' R'
    split at p
    · rename_i i e1
      obtain ⟨F, O, R'⟩ := R'
      have c := cell_val R' R'.tm.1 e1
      cases c
      exact ⟨i, rfl, p H' R'.pop.rel⟩
    · exact False.elim p
  | ex x e => rw [q] at p; exact p
  | bad => rw [q] at p; exact p
theorem DnAll.cut {F : Hp} {vs : List V} {xs : List Dt} (d : DnAll K F vs xs) (lo hi : Option Int) : DnAll K F (cutV vs lo hi) (cutD xs lo hi) := by
  unfold cutV cutD
  rw [d.length]
  exact (d.drop _).take _
theorem sl_ok {σ : L2.St} {env : Env} {ts : List V} {te : List A} {H : Hp} {Q : VK} {v : V} {a : A} {lo hi : Option Int} (R : Rel K B σ env (v :: ts) (a :: te) H) (p : PE' K B W σ ts te Q (slA env a lo hi)) : rSlU K v lo hi H Q := by
  obtain ⟨F, O, R⟩ := R
  have lst : ∀ {a}, RelF K B F O σ env (v :: ts) (a :: te) H → PE' K B W σ ts te Q (match a.lst? env with | some xs => .ok (.own (.l (cutD xs lo hi))) env | none => .bad) → rSlU K v lo hi H Q := fun {a} R p => by
    cases e : a.lst? env with
    | none => rw [e] at p; exact False.elim p
    | some xs =>
      rw [e] at p
      obtain ⟨q1, vs, rfl, t1, d1⟩ := cell_lst R R.tm.1 e
      exact .inr (.inl ⟨q1, vs, rfl, t1, fun r nr => p _ _ (R.pop.pushL nr (d1.cut lo hi))⟩)
  unfold slA at p
  split at p
  · rename_i xs
    obtain ⟨q1, vs, rfl, t1, d1⟩ := dn_tup (show Dn K F v (.tuple xs) from R.tm.1)
    refine .inl ⟨q1, vs, rfl, Same.sqT' R.sf t1.sq, fun z => ?_, fun z r ob nr hob => p _ _ (R.pop.pushT nr hob (d1.cut lo hi))⟩
    have e : cutD xs lo hi = xs := by
      unfold cutD
      rw [← d1.length, z.1, z.2, List.drop_zero, Nat.sub_zero, d1.length]
      exact List.take_of_length_le (Nat.le_refl _)
    rw [e] at p
    exact p _ H (R.pop.pushD (.tup t1 d1))
  · rename_i z
    have c : Dn K F v (.str z) := R.tm.1
    cases c with
    | str _ hz =>
      split at p
      · rename_i hl
        exact .inr (.inr ⟨z, rfl, hz, p _ H (R.pop.pushD (.str _ hl))⟩)
      · exact False.elim p
  · exact lst R p
theorem se_sl {t : TE} {m : ME} {tl th : TO} {ml mh : MO} (h : SE K B W t m) (h1 : SPo K B W tl ml) (h2 : SPo K B W th mh) : SE K B W (tSl (rSlU K) t tl th) (mSl m ml mh) := by
  intro σ env ts te H Q R p
  refine h.thE R p fun a e p v H1 R1 => ?_
  refine h1 σ e (v :: ts) (a :: te) H1 _ R1 ?_
  cases q : ml e (a :: te) with
  | ex x e2 => rw [q] at p; exact XPost.push p v a
  | bad => rw [q] at p; exact p
  | ok l e2 =>
    rw [q] at p
    intro H2 R2
    refine h2 σ e2 (v :: ts) (a :: te) H2 _ R2 ?_
    have p : PE' K B W σ ts te Q ((mh e2 (a :: te)).bind fun u e3 => slA e3 a l u) := p
    cases q2 : mh e2 (a :: te) with
    | ex x e3 => rw [q2] at p; exact XPost.push p v a
    | bad => rw [q2] at p; exact p
    | ok u e3 => rw [q2] at p; intro H3 R3; exact sl_ok R3 p
theorem se_revT {t : TE} {m : ME} (h : SE K B W t m) : SE K B W (tRevF K t) (mU revA m) := by
  intro σ env ts te H Q R p
  refine h.thE R p fun a e p v H1 R1 => ?_
  obtain ⟨F, O, R1⟩ := R1
  unfold revA at p
  split at p
  · rename_i xs
    obtain ⟨q1, vs, rfl, t1, d1⟩ := dn_tup (show Dn K F v (.tuple xs) from R1.tm.1)
    exact ⟨q1, vs, rfl, Same.sqT' R1.sf t1.sq, fun r ob nr hob => p _ _ (R1.pop.pushT nr hob d1.rev)⟩
  · exact False.elim p
theorem se_revL {t : TE} {m : ME} (h : SE K B W t m) : SE K B W (tRevL K t) (mU revLA m) := by
  intro σ env ts te H Q R p
  refine h.thE R p fun a e p v H1 R1 => ?_
  obtain ⟨F, O, R1⟩ := R1
  unfold revLA at p
  cases e1 : a.lst? e with
  | none => simp only [e1] at p; exact False.elim p
  | some xs =>
    simp only [e1] at p
    obtain ⟨q1, vs, rfl, t1, d1⟩ := cell_lst R1 R1.tm.1 e1
    exact ⟨q1, vs, rfl, t1, fun r nr => p _ _ (R1.pop.pushL nr d1.rev)⟩
/-! ### built-ins of one argument -/
theorem soa_one {r : List V → Hp → VK → Prop} {f : Env → A → Rs A} (h : SO1 K B W (fun v => r [v]) f) : SOA K B W r (one f) := by
  intro σ env ts te H Q vs as hl R p
  match vs, as, hl, p, R with
  | [v], [a], _, p, R => exact h σ env ts te H Q v a R p
  | [], [], _, p, _ => exact False.elim p
  | _ :: _ :: _, _ :: _ :: _, _, p, _ => exact False.elim p
theorem so1_len : SO1 K B W (fun v => rLenU K [v]) lenA := by
  intro σ env ts te H Q v a R p
  obtain ⟨F, O, R⟩ := R
  unfold lenA at p
  cases e : a.lst? env with
  | some xs =>
    simp only [e] at p
    obtain ⟨q1, vs, rfl, t1, d1⟩ := cell_lst R R.tm.1 e
    exact .inl ⟨_, xs.length, rfl, .inl ⟨vs, t1, d1.length.symm⟩, p _ H (R.pop.pushD (.int _))⟩
  | none =>
    simp only [e] at p
    cases e2 : a.val env with
    | none => simp only [e2] at p; exact False.elim p
    | some x =>
      simp only [e2] at p
      cases e3 : lenD x with
      | none => simp only [e3] at p; exact False.elim p
      | some n =>
        simp only [e3] at p
        have c := cell_val R R.tm.1 e2
        have q := p _ H (R.pop.pushD (.int _))
        cases c with
        | str z hz => cases e3; exact .inl ⟨_, _, rfl, ⟨hz, rfl⟩, q⟩
        | lst h d => cases e3; exact .inl ⟨_, _, rfl, .inl ⟨_, .inl (.inl h), d.length.symm⟩, q⟩
        | tup h d => cases e3; exact .inl ⟨_, _, rfl, .inr ⟨_, h.sq, d.length.symm⟩, q⟩
        | dct h d =>
          cases e3
          refine .inr ⟨_, _, rfl, h, ?_⟩
          have l : ∀ {kvs : List (Key × V)} {ds : List (Dt × Dt)}, DnKs K H kvs ds → kvs.length = ds.length := by
            intro kvs
            induction kvs with
            | nil => intro ds d; cases d; rfl
            | cons k r ih => intro ds d; cases d with
              | cons _ d => exact congrArg (· + 1) (ih d)
          rw [l d]
          exact q
        | _ => cases e3
theorem so1_tup : SO1 K B W (fun v => rTupOfF K [v]) tupA := by
  intro σ env ts te H Q v a R p
  obtain ⟨F, O, R⟩ := R
  unfold tupA at p
  split at p
  · rename_i xs
    obtain ⟨q1, vs, rfl, t1, d1⟩ := dn_tup (show Dn K F v (.tuple xs) from R.tm.1)
    exact ⟨q1, vs, rfl, .inr ⟨Same.sqT' R.sf t1.sq, p _ H (R.pop.pushD (.tup t1 d1))⟩⟩
  · split at p
    · rename_i xs e
      obtain ⟨q1, vs, rfl, t1, d1⟩ := cell_lst R R.tm.1 e
      exact ⟨q1, vs, rfl, .inl ⟨t1, fun r ob nr hob => p _ _ (R.pop.pushT nr hob d1)⟩⟩
    · exact False.elim p
theorem so1_lst : SO1 K B W (fun v => rLstOf K [v]) lstA := by
  intro σ env ts te H Q v a R p
  obtain ⟨F, O, R⟩ := R
  unfold lstA at p
  cases e : a.tup? with
  | some xs =>
    simp only [e] at p
    obtain ⟨q1, vs, rfl, t1, _, d1⟩ := cell_tup R R.tm.1 e
    exact ⟨q1, vs, rfl, .inr t1, fun r nr => p _ _ (R.pop.pushL nr d1)⟩
  | none =>
    simp only [e] at p
    cases e2 : a.lst? env with
    | none => simp only [e2] at p; exact False.elim p
    | some xs =>
      simp only [e2] at p
      obtain ⟨q1, vs, rfl, t1, d1⟩ := cell_lst R R.tm.1 e2
      exact ⟨q1, vs, rfl, .inl t1, fun r nr => p _ _ (R.pop.pushL nr d1)⟩
theorem dn_ty {H : Hp} {v : V} {x : Dt} (h : Dn K H v x) : TyX K H v (.type (tyD x)) := by
  cases h with
  | non => exact .base .non
  | bl b => exact .base (.bl b)
  | int i => exact .base (.int i)
  | str x _ => exact .base (.str x)
  | lst h _ => exact .base (.lst h)
  | tup h _ =>
    rcases h with ⟨ob, h, _⟩ | ⟨o, its, n, h1, h2, _⟩
    · exact .fTuple h
    · exact .kTuple h1 h2
  | dct h _ =>
    rcases h with h | ⟨o, h⟩
    · exact .base (.dK h)
    · exact .fDict h
theorem se_isi {T : String} {t : TE} {m : ME} (h : SE K B W t m) : SE K B W (tCB (rIsi K) (tCons t (tCons (tC (.ty T)) tNil))) (mIsi T m) := by
  intro σ env ts te H Q R p
  refine h.thE R p fun a e p v H1 R1 => ?_
  obtain ⟨F, O, R1⟩ := R1
  cases e1 : a.val e with
  | none => simp only [e1] at p; exact False.elim p
  | some x =>
    simp only [e1] at p
    cases e2 : kitB (tyD x) T with
    | none => simp only [e2] at p; exact False.elim p
    | some b =>
      simp only [e2] at p
      exact ⟨v, .ty T, _, _, b, rfl, .ty T, dn_ty (cell_val R1 R1.tm.1 e1), kit_ty e2, p _ H1 (R1.pop.pushD (.bl _))⟩
theorem us_abs : UnS K (fun v => rAbs [v]) absD := by
  intro H x dx z Q h1 h
  cases h1 <;> cases h
  exact ⟨rfl, fun q => ⟨_, rfl, q⟩⟩
theorem us_int : UnS K (fun v => rInt1 [v]) intD := by
  intro H x dx z Q h1 h
  cases h1 <;> cases h
  · exact ⟨rfl, fun q => .inr ⟨_, rfl, q⟩⟩
  · exact ⟨rfl, fun q => .inl ⟨_, rfl, q⟩⟩
theorem soa_min : SOA K B W rMin2 min2A := by
  intro σ env ts te H Q vs as hl R p
  unfold min2A at p
  split at p
  · rename_i i j
    obtain ⟨F, O, R2, d⟩ := args_dn hl R (as := [.d (.int i), .d (.int j)]) rfl
    cases d with
    | cons h1 d =>
      cases d with
      | cons h2 d =>
        cases d
        cases h1
        cases h2
        exact ⟨i, j, rfl, p _ H (R2.pushD (.int _))⟩
  · exact False.elim p
theorem se_join {ta tb : TE} {ma mb : ME} (ha : SE K B W ta ma) (hb : SE K B W tb mb) : SE K B W (tM1 (rJoin K) ta tb) (mJoin ma mb) := by
  intro σ env ts te H Q R p
  refine ha.thE R p fun a e p v H1 R1 => ?_
  split at p
  · rename_i s
    obtain ⟨F, O, R1⟩ := R1
    have c : Dn K F v (.str s) := R1.tm.1
    cases c with
    | str _ hs =>
      refine ⟨⟨s, rfl⟩, ?_⟩
      refine hb σ e _ _ H1 _ R1.rel ?_
      cases q : mb e (.d (.str s) :: te) with
      | ex x e2 => rw [q] at p; exact XPost.push p _ _
      | bad => rw [q] at p; exact p
      | ok b e2 =>
        rw [q] at p
        rintro u H2 ⟨F2, O2, R2⟩
        simp only [Rs.bind_ok] at p
        unfold joinS at p
        have key : ∀ xs, (∃ q1 vs, u = .ref q1 ∧ (SqL K H2 q1 vs ∨ SqT K H2 q1 vs) ∧ DnAll K F2 vs xs) → PE' K B W σ ts te Q (match (some xs).bind strsD with
          | some ys => if (ys.map (·.length)).sum + ys.length * s.length ≤ 16777216 ∧ (Txt.join s ys).length ≤ sizeLine then .ok (.d (.str (Txt.join s ys))) e2 else .bad
          | none => .bad) → rJoin K (.str s) [u] H2 Q := fun xs ⟨q1, vs, e1, sq, d⟩ p => by
          subst e1
          cases e2 : strsD xs with
          | none => simp only [Option.bind_some, e2] at p; exact False.elim p
          | some ys =>
            simp only [Option.bind_some, e2] at p
            split at p
            · rename_i hl
              refine ⟨s, q1, ys, rfl, rfl, by rw [← strsD_dn d e2]; exact sq, hl.1, p _ H2 (R2.pop.pop.pushD (.str _ hl.2))⟩
            · exact False.elim p
        cases e3 : b.tup? with
        | some xs =>
          simp only [e3] at p
          obtain ⟨q1, vs, e1, t1, _, d1⟩ := cell_tup R2 R2.tm.1 e3
          exact key xs ⟨q1, vs, e1, .inr t1, d1⟩ p
        | none =>
          simp only [e3] at p
          cases e4 : b.lst? e2 with
          | none => simp only [e4, Option.bind_none] at p; exact False.elim p
          | some xs =>
            simp only [e4] at p
            obtain ⟨q1, vs, e1, t1, d1⟩ := cell_lst R2 R2.tm.1 e4
            exact key xs ⟨q1, vs, e1, .inl t1, d1⟩ p
  · exact False.elim p
end
end Tw

namespace Tw
open PySem PySem.Spec PyProof.Rows L2
/-! ### things that are changed -/
def isNestK (i : Nat) (k : Key) : A → Bool
  | .rf j (some k') => j == i && decide (k' = k)
  | _ => false
theorem anyC_of_env {f : A → Bool} {env : Env} {te : List A} {i : Nat} {a : A} (e : env[i]? = some (some a)) (h : f a = true) : anyC f env te = true := by
  unfold anyC
  rw [Bool.or_eq_true]
  exact .inl (List.any_eq_true.mpr ⟨some a, List.mem_of_getElem? e, h⟩)
theorem anyC_of_te {f : A → Bool} {env : Env} {te : List A} {a : A} (e : a ∈ te) (h : f a = true) : anyC f env te = true := by
  unfold anyC
  rw [Bool.or_eq_true]
  exact .inr (List.any_eq_true.mpr ⟨a, e, h⟩)
section
variable {K : KW} {B : Bs} {F F' H H' : Hp} {O O' : Addr → Option Nat} {σ : List (Option V)} {env : Env} {ts : List V} {te : List A}
theorem RelF.chg (R : RelF K B F O σ env ts te H) {i : Nat} {v : V} {a a' : A} (he : env[i]? = some (some a)) (hv : σ[i]? = some (some v)) (sF : Same F F') (sH : Same F' H')
    (hk : ∀ j b, j ≠ i → O b = some j → O' b = some j ∧ H' b = H b ∧ F' b = none) (hO : ∀ b j, O' b = some j → j = i ∨ O b = some j)
    (hi : ∀ b, O' b = some i → F' b = none ∧ MutO (H' b) ∧ (B.H b = none ∨ (B.S b = some i ∧ B.io i = true)))
    (hb2 : ∀ b o, B.S b = none → B.H b ≠ none → H b = some o → H' b = some o) (htb : ∀ b o, O b = none → H b = some o → H' b = some o) (hb5 : ∀ b, H b ≠ none → H' b ≠ none) (hb3 : ∀ b, F b = none → F' b ≠ none → B.H b = none ∨ B.S b ≠ none)
    (new : CellO K B F' H' O' σ i v a') (hio : ∀ o, a = .io o → ∃ o', a' = .io o') (hp : ∀ k u, anyC (isNestK i k) env te = true → atP H O i v u (some k) → atP H' O' i v u (some k)) :
    RelF K B F' O' σ (env.set i (some a')) ts te H' := by
  have il : i < env.length := (List.getElem?_eq_some_iff.mp he).1
  have cell : ∀ {j : Nat} {u : V} {c : A}, CellO K B F H O σ j u c → j ≠ i → (∀ k, c = .rf i (some k) → anyC (isNestK i k) env te = true) → CellO K B F' H' O' σ j u c := fun {j u c} h nj hc => by
    cases c with
    | d x => exact Dn.same sF h
    | own o => exact OwO.mono (own := fun a => O a = some j ∧ B.H a = none) sF (fun a z => ⟨(hk j a nj z.1).1, z.2⟩) (fun a z => (hk j a nj z.1).2.1) h
    | io o => exact ⟨OwO.mono (own := fun a => O a = some j) sF (fun a z => (hk j a nj z).1) (fun a z => (hk j a nj z).2.1) h.1, h.2⟩
    | sc ns => obtain ⟨a, e, q⟩ := h; exact ⟨a, e, Same.sqL sF q⟩
    | q xs => obtain ⟨a, vs, e, q, d⟩ := h; exact ⟨a, vs, e, Same.sqT' sF q, d.same sF⟩
    | lk kvs => exact h
    | xr x => obtain ⟨e1, e2, h⟩ := h; exact ⟨e1, e2, h.imp id fun ⟨dx, us, e3, h1, h2⟩ => ⟨dx, us, e3, sF _ _ h1, h2.same sF⟩⟩
    | rf i' p =>
      obtain ⟨w, hw, h⟩ := h
      refine ⟨w, hw, ?_⟩
      cases p with
      | none => exact h
      | some k =>
        by_cases ii : i' = i
        · subst ii
          rw [hv] at hw
          cases hw
          exact hp k u (hc k rfl) h
        · exact h.mono fun _ b z => ⟨(hk i' b ii z).1, (hk i' b ii z).2.1⟩
  have tm : ∀ {us : List V} {ue : List A}, (∀ c ∈ ue, c ∈ te) → TmO K B F H O σ us ue → TmO K B F' H' O' σ us ue := fun {us} => by
    induction us with
    | nil => intro ue _ h; cases ue with
      | nil => trivial
      | cons => exact h.elim
    | cons u us ih =>
      intro ue hm h
      cases ue with
      | nil => exact h.elim
      | cons x ue =>
        refine ⟨cell h.1 (by have := R.ln; omega) (fun k e => anyC_of_te (hm x List.mem_cons_self) (by rw [e]; simp [isNestK])), ih (fun c hc => hm c (List.mem_cons_of_mem _ hc)) h.2⟩
  refine ⟨by rw [List.length_set]; exact R.ln, fun j c e => ?_, tm (fun c h => h) R.tm, sH, fun b j z => ?_, R.b1.trans sF, fun b o hs ht e => hb2 b o hs (by rw [e]; exact nofun) (R.b2 b o hs ht e), fun b h1 h2 => ?_, fun b h => hb5 b (R.b5 b h), fun j hj => ?_, R.tb.1, R.tb.2.mono fun b o t z => htb b o (R.noT t z) z⟩
  · rw [List.getElem?_set] at e
    by_cases ji : i = j
    · subst ji
      rw [if_pos rfl, if_pos il] at e
      cases e
      exact ⟨v, hv, new⟩
    · rw [if_neg ji] at e
      obtain ⟨u, e1, h⟩ := R.sl j c e
      exact ⟨u, e1, cell h (Ne.symm ji) fun k ec => anyC_of_env e (by rw [ec]; simp [isNestK])⟩
  · by_cases ji : j = i
    · subst ji
      obtain ⟨h1, h2, h3⟩ := hi b z
      exact ⟨h1, h2, by have := R.ln; omega, h3⟩
    · rcases hO b j z with h | h
      · exact absurd h ji
      · obtain ⟨h1, h2, h3, h4⟩ := R.of b j h
        obtain ⟨k1, k2, k3⟩ := hk j b ji h
        exact ⟨k3, by rw [k2]; exact h2, h3, h4⟩
  · cases q : F b with
    | none => exact hb3 b q h2
    | some o => exact R.b3 b h1 (by rw [q]; exact nofun)
  · obtain ⟨o, ho⟩ := R.bi j hj
    rw [List.getElem?_set]
    by_cases ji : i = j
    · subst ji
      rw [if_pos rfl, if_pos il]
      rw [he] at ho
      obtain ⟨o', e'⟩ := hio o (Option.some.inj (Option.some.inj ho))
      exact ⟨o', by rw [e']⟩
    · rw [if_neg ji]
      exact ⟨o, ho⟩
/-- the cell of a slot with another thing -/
def reOw (a : A) (o : Ow) : A := match a with
  | .io _ => .io o
  | _ => .own o
/-- the first one with a key, anew -/
def setF {α : Type} : List (Key × α) → Key → α → List (Key × α)
  | [], _, _ => []
  | q :: r, k, y => if q.1 = k then (q.1, y) :: r else q :: setF r k y
/-- the content of a list that is told, anew -/
def Ow.put (o : Ow) (p : Option Key) (ys : List Dt) : Option Ow := match o, p with
  | .l _, none => some (.l ys)
  | .ll xss, some (.inl n) => if 0 ≤ n ∧ n.toNat < xss.length then some (.ll (xss.set n.toNat ys)) else none
  | .dl kvs, some k => if (lkD kvs k).isSome = true then some (.dl (setF kvs k ys)) else none
  | _, _ => none
def setP (env : Env) (i : Nat) (p : Option Key) (ys : List Dt) : Option Env := match env[i]?, owAt env i with
  | some (some a), some o => (o.put p ys).map fun o' => env.set i (some (reOw a o'))
  | _, _ => none
theorem owAt_cell {i : Nat} {o : Ow} (h : owAt env i = some o) : env[i]? = some (some (.own o)) ∨ env[i]? = some (some (.io o)) := by
  unfold owAt at h
  split at h
  · rename_i e; cases h; exact .inl e
  · rename_i e; cases h; exact .inr e
  · cases h
/-- a list of data that a reference tells is changed -/
theorem rel_mutP (R : RelF K B F O σ env ts te H) {j i : Nat} {p : Option Key} {v : V} {xs : List Dt} (c : CellO K B F H O σ j v (.rf i p)) (h : (A.rf i p).ow env = some (.l xs)) (nn : p = none → anyC (isNest i) env te = false) :
    ∃ q us, v = .ref q ∧ H q = some (.lst us) ∧ DnAll K F us xs ∧ ∀ us' ys e', DnAll K F us' ys → setP env i p ys = some e' → RelF K B F O σ e' ts te (upd H q (.lst us')) := by
  have own := cell_rf R c h
  obtain ⟨q, us, ev, oq, hq, d⟩ := own
  subst ev
  refine ⟨q, us, rfl, hq, d, fun us' ys e' d' hs => ?_⟩
  obtain ⟨w, hw, hat⟩ := c
  unfold setP at hs
  cases ea : env[i]? with
  | none => rw [ea] at hs; cases hs
  | some oa =>
    cases oa with
    | none => rw [ea] at hs; cases hs
    | some a =>
      cases eo : owAt env i with
      | none => rw [ea, eo] at hs; cases hs
      | some o =>
        rw [ea, eo] at hs
        simp only at hs
        cases ep : o.put p ys with
        | none => rw [ep] at hs; cases hs
        | some o' =>
          rw [ep] at hs
          cases hs
          have cellW := R.owAt eo hw
          -- the new thing
          have newO : ∀ own : Addr → Prop, (∀ a, O a = some i → own a) → OwO K F (upd H q (.lst us')) own w o' := by
            intro own ho
            cases o with
            | l xs0 =>
              cases p with
              | some k => cases ep
              | none =>
                cases ep
                have hat : V.ref q = w := hat
                exact ⟨q, us', hat.symm, ho q oq, upd_same, d'⟩
            | dc kvs => cases p <;> cases ep
            | x kvs => cases p <;> cases ep
            | ll xss =>
              cases p with
              | none => cases ep
              | some k =>
                cases k with
                | inr _ => cases ep
                | inl n =>
                  unfold Ow.put at ep
                  simp only at ep
                  split at ep
                  · rename_i hn
                    cases ep
                    obtain ⟨b, vs, eb, ob, hb, nd, nm, pr⟩ := cellW
                    obtain ⟨a', ea', oa', hh⟩ := hat
                    rw [eb] at ea'
                    cases ea'
                    rcases hh with ⟨vs2, m, em, m0, hv2, hm⟩ | ⟨us2, hu2, _⟩
                    · cases em
                      rw [hb] at hv2
                      cases hv2
                      have nq : b ≠ q := fun z => nm (by rw [z]; exact List.mem_of_getElem? hm)
                      refine ⟨b, vs, eb, ho b ob, by rw [upd_ne nq]; exact hb, nd, nm, ?_⟩
                      have base : ∀ {vs0 : List V} {xss0 : List (List Dt)} {m : Nat}, Paired (OwL K F H fun a => O a = some i) vs0 xss0 → vs0.Nodup → vs0[m]? = some (.ref q) → Paired (OwL K F (upd H q (.lst us')) own) vs0 (xss0.set m ys) := by
                        intro vs0
                        induction vs0 with
                        | nil => intro xss0 m _ _ h; simp at h
                        | cons z r ih =>
                          intro xss0 m pr nd h
                          cases pr with
                          | cons g pr =>
                            have nd' := List.nodup_cons.mp nd
                            cases m with
                            | zero =>
                              cases h
                              refine .cons ⟨q, us', rfl, ho q oq, upd_same, d'⟩ ?_
                              have keep : ∀ {r : List V} {xr : List (List Dt)}, V.ref q ∉ r → Paired (OwL K F H fun a => O a = some i) r xr → Paired (OwL K F (upd H q (.lst us')) own) r xr := by
                                intro r
                                induction r with
                                | nil => intro xr _ p; cases p; exact .nil
                                | cons y r ih2 =>
                                  intro xr hn p
                                  cases p with
                                  | cons g p =>
                                    obtain ⟨a2, vs2, e2, o2, h2, d2⟩ := g
                                    refine .cons ⟨a2, vs2, e2, ho a2 o2, ?_, d2⟩ (ih2 (fun z => hn (List.mem_cons_of_mem _ z)) p)
                                    rw [upd_ne (fun z => hn (by rw [← z, ← e2]; exact List.mem_cons_self))]
                                    exact h2
                              exact keep nd'.1 pr
                            | succ m =>
                              obtain ⟨a2, vs2, e2, o2, h2, d2⟩ := g
                              have hm : r[m]? = some (.ref q) := by simpa using h
                              refine .cons ⟨a2, vs2, e2, ho a2 o2, ?_, d2⟩ (ih pr nd'.2 hm)
                              rw [upd_ne (fun z => nd'.1 (by rw [e2, z]; exact List.mem_of_getElem? hm))]
                              exact h2
                      exact base pr nd hm
                    · rw [hb] at hu2; cases hu2
                  · cases ep
            | dl kvs =>
              cases p with
              | none => cases ep
              | some k =>
                unfold Ow.put at ep
                simp only at ep
                split at ep
                · rename_i hk
                  cases ep
                  obtain ⟨b, vs, eb, ob, hb, nd, nm, pr⟩ := cellW
                  obtain ⟨a', ea', oa', hh⟩ := hat
                  rw [eb] at ea'
                  cases ea'
                  rcases hh with ⟨vs2, m, em, m0, hv2, hm⟩ | ⟨us2, hu2, hval⟩
                  · rw [hb] at hv2; cases hv2
                  · rw [hb] at hu2
                    cases hu2
                    have mem : V.ref q ∈ vs.map (·.2) := by
                      unfold valV at hval
                      cases qf : vs.find? fun kv => decide (kv.1 = k) with
                      | none => rw [qf] at hval; cases hval
                      | some kv =>
                        rw [qf] at hval
                        have : kv.2 = V.ref q := Option.some.inj hval
                        exact List.mem_map.mpr ⟨kv, List.mem_of_find?_eq_some qf, this⟩
                    have nq : b ≠ q := fun z => nm (by rw [z]; exact mem)
                    refine ⟨b, vs, eb, ho b ob, by rw [upd_ne nq]; exact hb, nd, nm, ?_⟩
                    have keep : ∀ {r : List (Key × V)} {xr : List (Key × List Dt)}, V.ref q ∉ r.map (·.2) → Paired (fun (p : Key × V) (q : Key × List Dt) => p.1 = q.1 ∧ OwL K F H (fun a => O a = some i) p.2 q.2) r xr → Paired (fun (p : Key × V) (z : Key × List Dt) => p.1 = z.1 ∧ OwL K F (upd H q (.lst us')) own p.2 z.2) r xr := by
                      intro r
                      induction r with
                      | nil => intro xr _ p; cases p; exact .nil
                      | cons y r ih2 =>
                        intro xr hn p
                        cases p with
                        | cons g p =>
                          obtain ⟨ek, a2, vs2, e2, o2, h2, d2⟩ := g
                          refine .cons ⟨ek, a2, vs2, e2, ho a2 o2, ?_, d2⟩ (ih2 (fun z => hn (List.mem_cons_of_mem _ z)) p)
                          rw [upd_ne (fun z => hn (by rw [← z, ← e2]; exact List.mem_cons_self))]
                          exact h2
                    have base : ∀ {vs0 : List (Key × V)} {ks0 : List (Key × List Dt)}, Paired (fun (p : Key × V) (q : Key × List Dt) => p.1 = q.1 ∧ OwL K F H (fun a => O a = some i) p.2 q.2) vs0 ks0 → (vs0.map (·.2)).Nodup → valV vs0 k = some (.ref q) → Paired (fun (p : Key × V) (z : Key × List Dt) => p.1 = z.1 ∧ OwL K F (upd H q (.lst us')) own p.2 z.2) vs0 (setF ks0 k ys) := by
                      intro vs0
                      induction vs0 with
                      | nil => intro ks0 _ _ h; cases h
                      | cons z r ih =>
                        intro ks0 pr nd h
                        cases pr with
                        | cons g pr =>
                          rename_i y0 ks
                          obtain ⟨ek, a2, vs2, e2, o2, h2, d2⟩ := g
                          have nd' := List.nodup_cons.mp (show (z.2 :: r.map (·.2)).Nodup from nd)
                          unfold valV at h
                          rw [List.find?_cons] at h
                          unfold setF
                          by_cases hk2 : z.1 = k
                          · rw [decide_eq_true hk2] at h
                            have ez : z.2 = .ref q := Option.some.inj h
                            rw [if_pos (ek ▸ hk2)]
                            refine .cons ⟨ek, q, us', ez, ho q oq, upd_same, d'⟩ (keep (by rw [← ez]; exact nd'.1) pr)
                          · rw [decide_eq_false hk2] at h
                            rw [if_neg (fun z => hk2 (ek.trans z))]
                            have hm : valV r k = some (.ref q) := h
                            have memr : V.ref q ∈ r.map (·.2) := by
                              unfold valV at hm
                              cases qf : r.find? fun kv => decide (kv.1 = k) with
                              | none => rw [qf] at hm; cases hm
                              | some kv =>
                                rw [qf] at hm
                                have : kv.2 = V.ref q := Option.some.inj hm
                                exact List.mem_map.mpr ⟨kv, List.mem_of_find?_eq_some qf, this⟩
                            refine .cons ⟨ek, a2, vs2, e2, ho a2 o2, ?_, d2⟩ (ih pr nd'.2 hm)
                            rw [upd_ne (fun y => nd'.1 (by rw [e2, y]; exact memr))]
                            exact h2
                    exact base pr nd.1 hval
                · cases ep
          have hio : ∀ o0, a = .io o0 → ∃ o'0, reOw a o' = .io o'0 := fun o0 e => ⟨o', by rw [e]; rfl⟩
          have hn0 : ∀ b, O b ≠ some i → upd H q (.lst us') b = H b := fun b nb => upd_ne (fun z => nb (by rw [z]; exact oq))
          refine R.chg ea hw (Same.refl F) (fun b o e => ?_) (fun j b nj z => ⟨z, hn0 b (by rw [z]; exact fun y => nj (Option.some.inj y)), (R.of b j z).1⟩) (fun b j z => .inr z) (fun b z => ?_) (fun b o hs hB hHb => ?_) (fun b o nb z => by rw [hn0 b (by rw [nb]; exact nofun)]; exact z) (fun b hb => ?_) (fun b h1 h2 => absurd h1 h2) ?_ hio (fun k u hany hat2 => ?_)
          · rw [upd_ne (fun z => by rw [z, (R.of q i oq).1] at e; cases e)]
            exact R.sf b o e
          · obtain ⟨h1, h2, h3, h4⟩ := R.of b i z
            refine ⟨h1, ?_, h4⟩
            by_cases hb : b = q
            · rw [hb, upd_same]; exact mutO_lst _
            · rw [upd_ne hb]; exact h2
          · by_cases hb : b = q
            · subst hb
              rcases (R.of b i oq).2.2.2 with y | y
              · exact absurd y hB
              · rw [y.1] at hs; cases hs
            · rw [upd_ne hb]; exact hHb
          · by_cases hb2 : b = q
            · rw [hb2, upd_same]; exact nofun
            · rw [upd_ne hb2]; exact hb
          · rcases owAt_cell eo with e2 | e2
            · rw [ea] at e2
              cases e2
              refine newO _ fun a z => ⟨z, ?_⟩
              rcases (R.of a i z).2.2.2 with y | y
              · exact y
              · obtain ⟨o9, h9⟩ := R.bi i y.2
                rw [ea] at h9
                cases h9
            · rw [ea] at e2
              cases e2
              obtain ⟨w', hw', c'⟩ := R.sl i _ ea
              rw [hw] at hw'
              cases hw'
              exact ⟨newO _ fun a z => z, c'.2⟩
          · -- nested references
            cases p with
            | none =>
              exfalso
              have := nn rfl
              unfold anyC at this hany
              rw [Bool.or_eq_false_iff] at this
              rw [Bool.or_eq_true] at hany
              have imp : ∀ c : A, isNestK i k c = true → isNest i c = true := fun c h => by
                cases c with
                | rf i' p' =>
                  cases p' with
                  | none => cases h
                  | some k' => simp [isNestK] at h; simp [isNest, h.1]
                | _ => cases h
              rcases hany with z | z
              · obtain ⟨c, hc, hz⟩ := List.any_eq_true.mp z
                have := List.any_eq_false.mp this.1 c hc
                cases c with
                | none => cases hz
                | some c => exact this (imp c hz)
              · obtain ⟨c, hc, hz⟩ := List.any_eq_true.mp z
                exact List.any_eq_false.mp this.2 c hc (imp c hz)
            | some kp =>
              obtain ⟨a2, e2, o2, h2⟩ := hat2
              have nq : a2 ≠ q := by
                rintro rfl
                cases o with
                | l _ => cases ep
                | dc _ => cases ep
                | x _ => cases ep
                | ll xss =>
                  obtain ⟨b, vs, eb, ob, hb, nd, nm, pr⟩ := cellW
                  obtain ⟨a', ea', oa', hh⟩ := hat
                  rw [eb] at ea' e2
                  cases ea'
                  cases e2
                  rcases hh with ⟨vs2, m, em, m0, hv2, hm⟩ | ⟨us2, hu2, _⟩
                  · rw [hb] at hv2
                    cases hv2
                    exact nm (List.mem_of_getElem? hm)
                  · rw [hb] at hu2; cases hu2
                | dl kvs =>
                  obtain ⟨b, vs, eb, ob, hb, nd, nm, pr⟩ := cellW
                  obtain ⟨a', ea', oa', hh⟩ := hat
                  rw [eb] at ea' e2
                  cases ea'
                  cases e2
                  rcases hh with ⟨vs2, m, em, m0, hv2, hm⟩ | ⟨us2, hu2, hval⟩
                  · rw [hb] at hv2; cases hv2
                  · rw [hq] at hb; cases hb
              refine ⟨a2, e2, o2, ?_⟩
              rw [upd_ne nq]
              exact h2
end
end Tw

namespace Tw
open PySem PySem.Spec PyProof.Rows L2
/-! ### methods of lists -/
def isL (e : Env) (o : A) : Bool := match o with
  | .d (.list _) => true
  | o => match o.ow e with
    | some (.l _) => true
    | some (.ll _) => true
    | _ => false
def mMeth (f : Env → List A → A → List A → Rs A) (mo : ME) (ma : MA) : ME := fun env te => (mo env te).bind fun o e1 => if isL e1 o = true then (ma e1 (o :: te)).bind fun as e2 => f e2 te o as else .bad
/-- the list that a reference tells, anew -/
def mutL (e : Env) (te : List A) (o : A) (g : List Dt → Option (Dt × List Dt)) : Rs A := match o with
  | .rf i p => match (A.rf i p).ow e with
    | some (.l xs) => if p.isSome = true ∨ anyC (isNest i) e te = false then (match g xs with
      | some (r, ys) => (match setP e i p ys with
        | some e' => .ok (.d r) e'
        | none => .bad)
      | none => .bad) else .bad
    | _ => .bad
  | _ => .bad
def appA : Env → List A → A → List A → Rs A := fun e te o as => match dAll as with
  | some [y] => mutL e te o fun xs => if xs.length < sizeLine then some (.none, xs ++ [y]) else none
  | _ => .bad
def extA : Env → List A → A → List A → Rs A := fun e te o as => match dAll as with
  | some [y] => (match seqD y with
    | some zs => mutL e te o fun xs => if xs.length + zs.length ≤ sizeLine then some (.none, xs ++ zs) else none
    | none => .bad)
  | _ => .bad
def insA : Env → List A → A → List A → Rs A := fun e te o as => match dAll as with
  | some [.int i, y] => mutL e te o fun xs => if xs.length < sizeLine ∧ 0 ≤ i ∧ i < 2 ^ 63 then some (.none, xs.take i.toNat ++ [y] ++ xs.drop i.toNat) else none
  | _ => .bad
def popA : Env → List A → A → List A → Rs A := fun e te o as => match as with
  | [] => mutL e te o fun xs => match xs[xs.length - 1]? with
    | some y => some (y, xs.dropLast)
    | none => none
  | _ => .bad
def popAtA : Env → List A → A → List A → Rs A := fun e te o as => match dAll as with
  | some [.int i] => mutL e te o fun xs => if -(2 ^ 63) ≤ i ∧ i < 2 ^ 63 then (match seqIndex? i xs.length with
    | some k => (match xs[k]? with
      | some y => some (y, xs.eraseIdx k)
      | none => none)
    | none => none) else none
  | _ => .bad
/-- the first place of a datum -/
def ixOf (d : Dt) : List Dt → Option Nat
  | [] => none
  | x :: xs => if PyData.eqv x d = true then some 0 else (ixOf d xs).map (· + 1)
def tixA (e : Env) (a b : A) : Rs A := match a, b with
  | .d (.tuple xs), .d d => if d.plain = true ∧ PyData.plainAll xs = true ∧ min (PyData.depthAll xs) d.depth ≤ 190 then (match ixOf d xs with
    | some j => .ok (.d (.int j)) e
    | none => .bad) else .bad
  | _, _ => .bad
def mTix (ma mb : ME) : ME := fun env te => (ma env te).bind fun a e1 => match a with
  | .d (.tuple xs) => (mb e1 (a :: te)).bind fun b e2 => tixA e2 a b
  | _ => .bad
section
variable {K : KW} {B : Bs} {W : WX}
def SM (K : KW) (B : Bs) (W : WX) (r : V → List V → Hp → VK → Prop) (f : Env → List A → A → List A → Rs A) : Prop := ∀ σ env ts te H Q v vs o as, vs.length = as.length → Rel K B σ env (vs.reverse ++ (v :: ts)) (as.reverse ++ (o :: te)) H → PE' K B W σ ts te Q (f env te o as) → r v vs H Q
theorem isL_ty {σ : L2.St} {env : Env} {ts : List V} {te : List A} {H : Hp} {v : V} {o : A} (R : Rel K B σ env (v :: ts) (o :: te) H) (h : isL env o = true) : tyV K "list" v H := by
  obtain ⟨F, O, R⟩ := R
  have key : ∀ u, o.ow env = some u → (∃ xs, u = .l xs) ∨ (∃ xs, u = .ll xs) → tyV K "list" v H := fun u e1 e2 => by
    obtain ⟨own, q⟩ := cell_ow R R.tm.1 e1
    rcases e2 with ⟨xs, rfl⟩ | ⟨xs, rfl⟩
    · obtain ⟨a, vs, rfl, _, h1, _⟩ := q
      exact .inl ⟨rfl, vs, .inl (.inl h1)⟩
    · obtain ⟨a, vs, rfl, _, h1, _⟩ := q
      exact .inl ⟨rfl, vs, .inl (.inl h1)⟩
  have g : (match o.ow env with | some (.l _) => true | some (.ll _) => true | _ => false) = true → tyV K "list" v H := fun h => by
    cases e : o.ow env with
    | none => rw [e] at h; cases h
    | some u =>
      rw [e] at h
      cases u with
      | l xs => exact key _ e (.inl ⟨xs, rfl⟩)
      | ll xs => exact key _ e (.inr ⟨xs, rfl⟩)
      | dc _ => cases h
      | dl _ => cases h
      | x _ => cases h
  cases o with
  | d x =>
    cases x with
    | list xs =>
      have c : Dn K F v (.list xs) := R.tm.1
      cases c with
      | lst h1 _ => exact .inl ⟨rfl, _, .inl (.inl (R.sf _ _ h1))⟩
    | _ => cases h
  | own _ => exact g h
  | io _ => exact g h
  | rf _ _ => exact g h
  | sc _ => exact g h
  | q _ => exact g h
  | lk _ => exact g h
  | xr _ => exact g h
theorem se_meth {r : V → List V → Hp → VK → Prop} {f : Env → List A → A → List A → Rs A} {to : TE} {ta : TA} {mo : ME} {ma : MA} (s : SM K B W r f) (ho : SE K B W to mo) (ha : SA K B W ta ma) : SE K B W (tBM K "list" r to ta) (mMeth f mo ma) := by
  intro σ env ts te H Q R p
  refine ho.thE R p fun o e p v H1 R1 => ?_
  split at p
  · rename_i il
    refine ⟨isL_ty R1 il, ?_⟩
    refine ha σ e (v :: ts) (o :: te) H1 _ R1 ?_
    cases q : ma e (o :: te) with
    | ok as e2 =>
      rw [q] at p
      intro vs H2 hl R2
      exact s σ e2 ts te H2 Q v vs o as hl R2 p
    | ex x e2 => rw [q] at p; exact XPost.push p v o
    | bad => rw [q] at p; exact p
  · exact False.elim p
theorem se_meth0 {r : V → List V → Hp → VK → Prop} {f : Env → List A → A → List A → Rs A} {to : TE} {mo : ME} (s : SM K B W r f) (ho : SE K B W to mo) : SE K B W (tBM0 K "list" r to) (mMeth f mo mNil) := by
  intro σ env ts te H Q R p
  refine ho.thE R p fun o e p v H1 R1 => ?_
  split at p
  · rename_i il
    exact ⟨isL_ty R1 il, s σ e ts te H1 Q v [] o [] rfl R1 p⟩
  · exact False.elim p
/-- one list changed -/
theorem mutL_ok {σ : L2.St} {env : Env} {ts : List V} {te : List A} {F H : Hp} {O : Addr → Option Nat} {Q : VK} {v : V} {o : A} {g : List Dt → Option (Dt × List Dt)} (R : RelF K B F O σ env (v :: ts) (o :: te) H) (p : PE' K B W σ ts te Q (mutL env te o g)) :
    ∃ q us xs, v = .ref q ∧ H q = some (.lst us) ∧ DnAll K F us xs ∧ ∃ r ys, g xs = some (r, ys) ∧ ∀ w us', Dn K F w r → DnAll K F us' ys → Q w (upd H q (.lst us')) := by
  unfold mutL at p
  cases o with
  | rf i pt =>
    simp only at p
    cases e : (A.rf i pt).ow env with
    | none => simp only [e] at p; exact False.elim p
    | some u =>
      cases u with
      | l xs =>
        simp only [e] at p
        split at p
        · rename_i cn
          cases eg : g xs with
          | none => simp only [eg] at p; exact False.elim p
          | some ry =>
            obtain ⟨r, ys⟩ := ry
            simp only [eg] at p
            cases es : setP env i pt ys with
            | none => simp only [es] at p; exact False.elim p
            | some e' =>
              simp only [es] at p
              obtain ⟨O1, R1, _, pr⟩ := args_cells (us := [v]) (ue := [.rf i pt]) rfl (fun a ha => by rw [List.mem_singleton.mp ha]; rfl) R
              cases pr with
              | cons c _ =>
                obtain ⟨q, us, ev, hq, d, k⟩ := rel_mutP R1 c e (fun z => by
                  rcases cn with z2 | z2
                  · rw [z] at z2; cases z2
                  · exact z2)
                exact ⟨q, us, xs, ev, hq, d, r, ys, eg, fun w us' hw d' => p _ _ ((k us' ys e' d' es).pushD hw)⟩
        · exact False.elim p
      | ll _ => simp only [e] at p; exact False.elim p
      | dc _ => simp only [e] at p; exact False.elim p
      | dl _ => simp only [e] at p; exact False.elim p
      | x _ => simp only [e] at p; exact False.elim p
  | d _ => exact False.elim p
  | own _ => exact False.elim p
  | io _ => exact False.elim p
  | sc _ => exact False.elim p
  | q _ => exact False.elim p
  | lk _ => exact False.elim p
  | xr _ => exact False.elim p
theorem sm_app : SM K B W rAppend appA := by
  intro σ env ts te H Q v vs o as hl R p
  unfold appA at p
  split at p
  · rename_i y e
    obtain ⟨F, O, R2, d⟩ := args_dn hl R e
    cases d with
    | cons hy d =>
      cases d
      obtain ⟨q, us, xs, rfl, hq, dx, r, ys, eg, k⟩ := mutL_ok R2 p
      try dsimp only at eg
      split at eg
      · rename_i hz
        cases eg
        exact ⟨q, us, _, rfl, rfl, hq, by rw [dx.length]; exact hz, k _ _ .non (dx.app (.cons hy .nil))⟩
      · cases eg
  · exact False.elim p
def rExtU (K : PySem.W.Frag) : V → List V → Hp → VK → Prop := fun x vs H Q => rExtend x vs H Q ∨ rExtendT K x vs H Q
theorem mt_extU {X : Cx} : MtR X "list.extend" (rExtU X.K) := by
  intro pins s σ H x xs v us Q I rx rs h
  rcases h with h | h
  · exact mt_extend pins s σ H x xs v us Q I rx rs h
  · exact mt_extendT pins s σ H x xs v us Q I rx rs h
theorem sm_ext : SM K B W (rExtU K) extA := by
  intro σ env ts te H Q v vs o as hl R p
  unfold extA at p
  split at p
  · rename_i y e
    obtain ⟨F, O, R2, d⟩ := args_dn hl R e
    cases es : seqD y with
    | none => simp only [es] at p; exact False.elim p
    | some zs =>
      simp only [es] at p
      cases d with
      | cons hy d =>
        cases d
        obtain ⟨q, us, xs, rfl, hq, dx, r, ys, eg, k⟩ := mutL_ok R2 p
        try dsimp only at eg
        split at eg
        · rename_i hz
          cases eg
          cases hy with
          | lst h1 d1 =>
            cases es
            exact .inl ⟨q, _, us, _, rfl, rfl, hq, R2.sf _ _ h1, by rw [dx.length, d1.length]; exact hz, k _ _ .non (dx.app d1)⟩
          | tup h1 d1 =>
            cases es
            exact .inr ⟨q, _, us, _, rfl, rfl, hq, Same.sqT' R2.sf h1.sq, by rw [dx.length, d1.length]; exact hz, k _ _ .non (dx.app d1)⟩
          | _ => cases es
        · cases eg
  · exact False.elim p
theorem DnAll.dropLast {F : Hp} {vs : List V} {xs : List Dt} (d : DnAll K F vs xs) : DnAll K F vs.dropLast xs.dropLast := by
  rw [List.dropLast_eq_take, List.dropLast_eq_take, d.length]
  exact d.take _
theorem sm_pop : SM K B W rPop popA := by
  intro σ env ts te H Q v vs o as hl R p
  unfold popA at p
  split at p
  · have : vs = [] := List.length_eq_zero_iff.mp hl
    subst this
    obtain ⟨F, O, R⟩ := R
    obtain ⟨q, us, xs, rfl, hq, dx, r, ys, eg, k⟩ := mutL_ok R p
    try dsimp only at eg
    split at eg
    · rename_i y hy
      cases eg
      rw [← dx.length] at hy
      obtain ⟨w, hw, dw⟩ := dx.get hy
      exact ⟨q, us, w, rfl, rfl, hq, hw, k w _ dw dx.dropLast⟩
    · cases eg
  · exact False.elim p
theorem DnAll.erase {F : Hp} : ∀ {vs : List V} {xs : List Dt} (n : Nat), DnAll K F vs xs → DnAll K F (vs.eraseIdx n) (xs.eraseIdx n)
  | _, _, _, .nil => .nil
  | _, _, 0, .cons _ hs => hs
  | _, _, n + 1, .cons h hs => .cons h (DnAll.erase n hs)
/-! ### t.index(x) -/
/-! ### xs[i] = v -/
def setLA (e : Env) (te : List A) (o b a : A) : Option Env := match a with
  | .d y => (match b.val e with
    | some (.int i) => (match mutL e te o (fun xs => match ixN xs.length i with | some j => some (.none, xs.set j y) | none => none) with
      | .ok _ e' => some e'
      | _ => none)
    | _ => none)
  | _ => none
def mSetL (mv mo mi : ME) : MS := fun env te => (mv env te).fl fun a e => (mo e (a :: te)).fl fun o e1 => (mi e1 (o :: a :: te)).fl fun b e2 => match setLA e2 te o b a with
  | some e' => .nx e'
  | none => .bad
theorem SE.thS1 {t : TE} {m : ME} (h : SE K B W t m) {σ : L2.St} {env : Env} {ts : List V} {te : List A} {H : Hp} {Q : VK} {D : Ends} {v : V} {a : A} (R : Rel K B σ env (v :: ts) (a :: te) H) {f : A → Env → Fl} (p : PS' K B W ts te D ((m env (a :: te)).fl f))
    (hok : ∀ b e, PS' K B W ts te D (f b e) → ∀ w H', Rel K B σ e (w :: v :: ts) (b :: a :: te) H' → Q w H') : t σ H Q := by
  refine h σ env _ _ H Q R ?_
  cases e : m env (a :: te) with
  | ok b e' => rw [e] at p; exact hok b e' p
  | ex x e' => rw [e] at p; exact XPost.push (p σ) v a
  | bad => rw [e] at p; exact p
theorem SE.thS2 {t : TE} {m : ME} (h : SE K B W t m) {σ : L2.St} {env : Env} {ts : List V} {te : List A} {H : Hp} {Q : VK} {D : Ends} {v u : V} {a b : A} (R : Rel K B σ env (u :: v :: ts) (b :: a :: te) H) {f : A → Env → Fl} (p : PS' K B W ts te D ((m env (b :: a :: te)).fl f))
    (hok : ∀ c e, PS' K B W ts te D (f c e) → ∀ w H', Rel K B σ e (w :: u :: v :: ts) (c :: b :: a :: te) H' → Q w H') : t σ H Q := by
  refine h σ env _ _ H Q R ?_
  cases e : m env (b :: a :: te) with
  | ok b e' => rw [e] at p; exact hok b e' p
  | ex x e' => rw [e] at p; exact XPost.push (XPost.push (p σ) v a) u b
  | bad => rw [e] at p; exact p
theorem ss_setL {tv to ti : TE} {mv mo mi : ME} (hv : SE K B W tv mv) (ho : SE K B W to mo) (hi : SE K B W ti mi) : SS K B W (tAsg tv (gSub to ti rSetL)) (mSetL mv mo mi) := by
  intro σ env ts te H D R p
  refine hv.thS R p fun a e p v H1 R1 => ?_
  refine ho.thS1 R1 p fun o e1 p u H2 R2 => ?_
  refine hi.thS2 R2 p fun b e2 p w H3 R3 => ?_
  obtain ⟨F, O, R3⟩ := R3
  cases q : setLA e2 te o b a with
  | none => simp only [q] at p; exact False.elim p
  | some e' =>
    simp only [q] at p
    have p9 : ∀ σ H, Rel K B σ e' ts te H → D.nx σ H := p
    have ha : ∃ y, a = .d y := by
      cases a with
      | d y => exact ⟨y, rfl⟩
      | _ => cases q
    obtain ⟨y, rfl⟩ := ha
    have hb : ∃ i, b.val e2 = some (.int i) := by
      unfold setLA at q
      cases eb : b.val e2 with
      | none => simp only [eb] at q; cases q
      | some x =>
        cases x with
        | int i => exact ⟨i, rfl⟩
        | _ => simp only [eb] at q; cases q
    obtain ⟨i, eb⟩ := hb
    unfold setLA at q
    simp only [eb] at q
    · have cb := cell_val R3 R3.tm.1 eb
      cases cb
      have hy : Dn K F v y := R3.tm.2.2.1
      have R5 := R3.pop.mid (by
        cases o with
        | io _ => exact False.elim (by unfold mutL at q; cases q)
        | _ => rfl)
      cases q2 : mutL e2 te o (fun xs => match ixN xs.length i with | some j => some (.none, xs.set j y) | none => none) with
      | ok r e'' =>
        rw [q2] at q
        cases q
        obtain ⟨z, us, xs, ez, hz, dx, r, ys, eg, k⟩ := mutL_ok (Q := fun _ H' => D.nx σ H') (W := W) R5 (by rw [q2]; exact fun w H' R' => p9 σ H' R'.pop)
        cases en : ixN xs.length i with
        | none => simp only [en] at eg; cases eg
        | some n =>
          simp only [en] at eg
          cases eg
          exact ⟨z, us, i, n, ez, rfl, hz, by rw [dx.length]; exact en, k _ _ .non (dx.set n hy)⟩
      | ex x e'' => rw [q2] at q; cases q
      | bad => rw [q2] at q; cases q
end
end Tw

namespace Tw
open PySem PySem.Spec PyProof.Rows L2
/-! ### what is walked -/
def iSeq (K : PySem.W.Frag) (t : TE) : TI := fun σ H R => t σ H fun x H1 => (∃ a, x = .ref a ∧ (∃ xs, SqL K H1 a xs) ∧ R (Itl K a) H1) ∨ (∃ a, x = .ref a ∧ (∃ xs, SqT K H1 a xs) ∧ R (Itt K a) H1) ∨ ∃ z, x = .str z ∧ R (Its z) H1
theorem pi_seq {X : Cx} {tg l : Expr} {tl : TE} (hl : PE X l tl) : PI X tg l (iSeq X.K tl) := by
  refine ⟨fun pins s σ H R I h => ?_⟩
  refine thn (hl.run pins s σ H _ I h) fun v s1 ⟨x, H1, I1, r1, q1⟩ => ?_
  rcases q1 with ⟨a, e, ⟨xs, hq⟩, q⟩ | ⟨a, e, ⟨xs, hq⟩, q⟩ | ⟨z, e, q⟩
  · subst e
    cases r1
    obtain ⟨its, rv, p, hz⟩ := I1.list hq
    refine wpAny_pyIter_list p.isList ?_
    refine ⟨s1.heap.objs.size, [s1.heap.objs.size], _, _, H1, rfl, I1.kept (t' := s1.toks) fun b o e => Heap.get?_push_of_some _ e, turn_list a _, ⟨_, Heap.get?_push_size _ rfl, rfl, rfl⟩, fun b hb => ?_, q⟩
    have e : b = s1.heap.objs.size := by simpa using hb
    subst e
    exact I1.fpOk (Nat.le_refl _) (I1.hok.fresh (Nat.le_refl _))
  · subst e
    cases r1
    obtain ⟨its, rv, p, hz⟩ := I1.tuple hq
    refine wpAny_pyIter_tuple (show s1.heap.IsTuple a its.toArray from p) ?_
    refine ⟨s1.heap.objs.size, [s1.heap.objs.size], _, _, H1, rfl, I1.kept (t' := s1.toks) fun b o e => Heap.get?_push_of_some _ e, turn_tuple a _, ⟨_, Heap.get?_push_size _ rfl, rfl, rfl⟩, fun b hb => ?_, q⟩
    have e : b = s1.heap.objs.size := by simpa using hb
    subst e
    exact I1.fpOk (Nat.le_refl _) (I1.hok.fresh (Nat.le_refl _))
  · subst e
    obtain ⟨t, rfl⟩ := r1
    cases ha : z.cps.all (· < 128)
    · exact wpAny_pyIter_wide ha (pi_one (tk := s1.toks) I1 _ (turn_str _ z t "str_iterator" (.inr rfl)) ⟨_, Heap.get?_push_size _ rfl, rfl, rfl⟩ q)
    · exact wpAny_pyIter_ascii ha (pi_one (tk := s1.toks) I1 _ (turn_str _ z t "str_ascii_iterator" (.inl rfl)) ⟨_, Heap.get?_push_size _ rfl, rfl, rfl⟩ q)
/-- the items of a list, a tuple, a text -/
def chD (z : Str) : List Dt := z.cps.toList.map fun c => .str ⟨#[c]⟩
def A.seq? (env : Env) (a : A) : Option (List Dt) := match a with
  | .d (.str z) => some (chD z)
  | a => match a.tup? with
    | some xs => some xs
    | none => a.lst? env
theorem seq_lst {env : Env} {a : A} (h : a.tup? = none) (nz : ∀ z, a ≠ .d (.str z)) : a.seq? env = a.lst? env := by
  cases a with
  | d x =>
    cases x with
    | str z => exact absurd rfl (nz z)
    | tuple xs => cases h
    | _ => rfl
  | q xs => cases h
  | _ => rfl
theorem seq_tup {env : Env} {a : A} {ys : List Dt} (h : a.tup? = some ys) : a.seq? env = some ys := by
  cases a with
  | d x =>
    cases x with
    | tuple xs => cases h; rfl
    | _ => cases h
  | q xs => cases h; rfl
  | _ => cases h
def mSeqI (m : ME) : MI := fun env te => (m env te).bind fun a e => match a.seq? e with
  | some _ => .ok ([a], fun env => a.seq? env) e
  | none => .bad
def intsD (lo : Int) (n : Nat) : List Dt := (List.range n).map fun (i : Nat) => .int (lo + i)
def mRng1 (m : ME) : MI := fun env te => (m env te).bind fun a e => match a with
  | .d (.int j) => if -(2 ^ 62) ≤ j ∧ j < 2 ^ 62 then .ok ([], fun _ => some (intsD 0 j.toNat)) e else .bad
  | _ => .bad
def mRng2 (ma mb : ME) : MI := fun env te => (ma env te).bind fun a e => (mb e (a :: te)).bind fun b e2 => match a, b with
  | .d (.int i), .d (.int j) => if -(2 ^ 62) ≤ i ∧ i < 2 ^ 62 ∧ -(2 ^ 62) ≤ j ∧ j < 2 ^ 62 then .ok ([], fun _ => some (intsD i (j - i).toNat)) e2 else .bad
  | _, _ => .bad
def enumD (xs : List Dt) : List Dt := xs.zipIdx.map fun q => .tuple [.int q.2, q.1]
def mEnT (m : ME) : MI := fun env te => (m env te).bind fun a e => match a.tup? with
  | some xs => .ok ([a], fun _ => some (enumD xs)) e
  | none => .bad
def mEnL (m : ME) : MI := fun env te => (m env te).bind fun a e => match a.lst? e with
  | some xs => .ok ([a], fun env => (a.lst? env).map enumD) e
  | none => .bad
section
variable {K : KW} {B : Bs} {W : WX}
theorem wd_cell {σ : L2.St} {env : Env} {us ts : List V} {ue te : List A} {H : Hp} {v0 : V} {a0 : A} (hl : us.length = ue.length) (R : Rel K B σ env (us ++ ([v0] ++ ts)) (ue ++ ([a0] ++ te)) H) :
    ∃ F O j, RelF K B F O σ env (us ++ ([v0] ++ ts)) (ue ++ ([a0] ++ te)) H ∧ CellO K B F H O σ j v0 a0 := by
  obtain ⟨F, O, R⟩ := R
  have : ∀ {us : List V} {ue : List A}, us.length = ue.length → TmO K B F H O σ (us ++ (v0 :: ts)) (ue ++ (a0 :: te)) → ∃ j, CellO K B F H O σ j v0 a0 := by
    intro us
    induction us with
    | nil => intro ue hl h; cases ue with
      | nil => exact ⟨_, h.1⟩
      | cons => cases hl
    | cons u us ih => intro ue hl h; cases ue with
      | nil => cases hl
      | cons x ue => exact ih (Nat.succ.inj hl) h.2
  obtain ⟨j, c⟩ := this hl R.tm
  exact ⟨F, O, j, R, c⟩
theorem si_seq {t : TE} {m : ME} (h : SE K B W t m) : SI K B W .d (iSeq K t) (mSeqI m) := by
  intro σ env ts te H R0 R p
  refine h σ env ts te H _ R ?_
  have p : PI' K B W .d σ ts te R0 ((m env te).bind fun a e => match a.seq? e with | some _ => .ok ([a], fun env => a.seq? env) e | none => .bad) := p
  cases q : m env te with
  | ex x e => rw [q] at p; exact p
  | bad => rw [q] at p; exact p
  | ok a e =>
    rw [q] at p
    simp only [Rs.bind_ok] at p
    intro v H1 R1
    cases es : a.seq? e with
    | none => simp only [es] at p; exact False.elim p
    | some xs =>
      simp only [es] at p
      have fin : ∀ J, WDk K B .d J [a] [v] (fun env => a.seq? env) → R0 J H1 := fun J wd => p J [v] H1 rfl R1 wd
      -- what kind of thing it is
      have lst : ∀ (ys : List Dt), a.tup? = none → (∀ z, a ≠ .d (.str z)) → a.lst? e = some ys → (∃ b, v = .ref b ∧ (∃ xs, SqL K H1 b xs) ∧ R0 (Itl K b) H1) := fun ys ht hz e1 => by
        obtain ⟨F1, O1, R1⟩ := R1
        obtain ⟨b, vs, rfl, sq, d⟩ := cell_lst R1 R1.tm.1 e1
        refine ⟨b, rfl, ⟨vs, sq⟩, fin _ ?_⟩
        intro i σ2 env2 us ue ts2 te2 H2 xs2 hl R2 hrd
        obtain ⟨F2, O2, j2, R2, c2⟩ := wd_cell hl R2
        have hrd : a.lst? env2 = some xs2 := by
          have z : a.seq? env2 = a.lst? env2 := seq_lst ht hz
          rw [← z]; exact hrd
        obtain ⟨b2, vs2, e2, sq2, d2⟩ := cell_lst R2 c2 hrd
        cases e2
        refine ⟨fun hi => ?_, fun x hx => ?_⟩
        · rw [hi, ← d2.length]; exact (walk_list (xs := vs2)).stops H2 sq2
        · have il := (List.getElem?_eq_some_iff.mp hx).1
          refine ⟨(walk_list (xs := vs2)).goes i H2 (by rw [d2.length]; exact il) sq2, fun w H3 hy => ?_⟩
          obtain ⟨rfl, hw⟩ := (walk_list (xs := vs2)).yields i H2 w H3 (by rw [d2.length]; exact il) sq2 hy
          obtain ⟨x', hx', dw⟩ := d2.getV hw
          rw [hx] at hx'
          cases hx'
          exact R2.pushD dw
      have tup : ∀ (ys : List Dt), a.tup? = some ys → (∃ b, v = .ref b ∧ (∃ xs, SqT K H1 b xs) ∧ R0 (Itt K b) H1) := fun ys e1 => by
        obtain ⟨F1, O1, R1⟩ := R1
        obtain ⟨b, vs, rfl, sq, _, d⟩ := cell_tup R1 R1.tm.1 e1
        refine ⟨b, rfl, ⟨vs, sq⟩, fin _ ?_⟩
        intro i σ2 env2 us ue ts2 te2 H2 xs2 hl R2 hrd
        obtain ⟨F2, O2, j2, R2, c2⟩ := wd_cell hl R2
        have hrd : ys = xs2 := by
          have z : a.seq? env2 = some ys := seq_tup e1
          have hrd : a.seq? env2 = some xs2 := hrd
          rw [z] at hrd
          exact Option.some.inj hrd
        subst hrd
        obtain ⟨b2, vs2, e2, sq2, _, d2⟩ := cell_tup R2 c2 e1
        cases e2
        refine ⟨fun hi => ?_, fun x hx => ?_⟩
        · rw [hi, ← d2.length]; exact (walk_tup (xs := vs2)).stops H2 sq2
        · have il := (List.getElem?_eq_some_iff.mp hx).1
          refine ⟨(walk_tup (xs := vs2)).goes i H2 (by rw [d2.length]; exact il) sq2, fun w H3 hy => ?_⟩
          obtain ⟨rfl, hw⟩ := (walk_tup (xs := vs2)).yields i H2 w H3 (by rw [d2.length]; exact il) sq2 hy
          obtain ⟨x', hx', dw⟩ := d2.getV hw
          rw [hx] at hx'
          cases hx'
          exact R2.pushD dw
      by_cases hz : ∃ z, a = .d (.str z)
      · obtain ⟨z, rfl⟩ := hz
        obtain ⟨F1, O1, R1⟩ := R1
        have c : Dn K F1 v (.str z) := R1.tm.1
        cases c with
        | str _ hzl =>
          refine .inr (.inr ⟨z, rfl, fin _ ?_⟩)
          intro i σ2 env2 us ue ts2 te2 H2 xs2 hl R2 hrd
          have hrd : chD z = xs2 := Option.some.inj hrd
          subst hrd
          have ln : (chD z).length = z.cps.size := by unfold chD; rw [List.length_map, Array.length_toList]
          refine ⟨fun hi => ?_, fun x hx => ?_⟩
          · rw [hi, ln]; exact walk_str.stops H2 trivial
          · have il := (List.getElem?_eq_some_iff.mp hx).1
            rw [ln] at il
            refine ⟨walk_str.goes i H2 il trivial, fun w H3 hy => ?_⟩
            obtain ⟨rfl, c, hc, rfl⟩ := walk_str.yields i H2 w H3 il trivial hy
            have : x = .str ⟨#[c]⟩ := by
              unfold chD at hx
              rw [List.getElem?_map, Array.getElem?_toList, hc] at hx
              exact (Option.some.inj hx).symm
            subst this
            obtain ⟨F2, O2, R2⟩ := R2
            exact R2.pushD (.str _ (by show (1 : Nat) ≤ sizeLine; decide))
      · have nz : ∀ z, a ≠ .d (.str z) := fun z e => hz ⟨z, e⟩
        cases et : a.tup? with
        | some ys => exact .inr (.inl (tup ys et))
        | none =>
          have : a.lst? e = some xs := by
            have z : a.seq? e = a.lst? e := seq_lst et nz
            rw [← z]; exact es
          exact .inl (lst xs et nz this)
theorem wd_rng {lo : Int} {n : Nat} : WDk K B .d (Itr lo n) [] [] (fun _ => some (intsD lo n)) := by
  intro i σ2 env2 us ue ts2 te2 H2 xs2 hl R2 hrd
  cases hrd
  have ln : (intsD lo n).length = n := by unfold intsD; rw [List.length_map, List.length_range]
  refine ⟨fun hi => ?_, fun x hx => ?_⟩
  · rw [hi, ln]; exact walk_range.stops H2 trivial
  · have il := (List.getElem?_eq_some_iff.mp hx).1
    rw [ln] at il
    refine ⟨walk_range.goes i H2 il trivial, fun w H3 hy => ?_⟩
    obtain ⟨rfl, rfl⟩ := walk_range.yields i H2 w H3 il trivial hy
    have : x = .int (lo + i) := by
      unfold intsD at hx
      rw [List.getElem?_map, List.getElem?_range il] at hx
      exact (Option.some.inj hx).symm
    subst this
    obtain ⟨F2, O2, R2⟩ := R2
    exact R2.pushD (.int _)
theorem si_rng1 {t : TE} {m : ME} (h : SE K B W t m) : SI K B W .d (iRng1 (tCons t tNil)) (mRng1 m) := by
  intro σ env ts te H R0 R p
  refine h σ env ts te H _ R ?_
  have p : PI' K B W .d σ ts te R0 ((m env te).bind fun a e => match a with | .d (.int j) => if -(2 ^ 62) ≤ j ∧ j < 2 ^ 62 then .ok ([], fun _ => some (intsD 0 j.toNat)) e else .bad | _ => .bad) := p
  cases q : m env te with
  | ex x e => rw [q] at p; exact p
  | bad => rw [q] at p; exact p
  | ok a e =>
    rw [q] at p
    simp only [Rs.bind_ok] at p
    intro v H1 R1
    split at p
    · rename_i j
      split at p
      · rename_i hj
        obtain ⟨F1, O1, R1⟩ := R1
        have c : Dn K F1 v (.int j) := R1.tm.1
        cases c
        exact ⟨j, rfl, hj.1, hj.2, p _ [] H1 rfl R1.pop.rel wd_rng⟩
      · exact False.elim p
    · exact False.elim p
theorem enumD_get {xs : List Dt} {i : Nat} {x : Dt} (h : (enumD xs)[i]? = some x) : ∃ y, xs[i]? = some y ∧ x = .tuple [.int i, y] := by
  unfold enumD at h
  rw [List.getElem?_map, List.getElem?_zipIdx] at h
  cases q : xs[i]? with
  | none => rw [q] at h; cases h
  | some y =>
    rw [q] at h
    refine ⟨y, rfl, ?_⟩
    have := (Option.some.inj h).symm
    simpa using this
theorem enumD_len (xs : List Dt) : (enumD xs).length = xs.length := by unfold enumD; rw [List.length_map, List.length_zipIdx]
theorem si_enT {t : TE} {m : ME} (h : SE K B W t m) : SI K B W kdQ (iEnumT K (tCons t tNil)) (mEnT m) := by
  intro σ env ts te H R0 R p
  refine h σ env ts te H _ R ?_
  unfold mEnT at p
  cases q : m env te with
  | ex x e => rw [q] at p; exact p
  | bad => rw [q] at p; exact p
  | ok a e =>
    rw [q] at p
    simp only [Rs.bind_ok] at p
    intro v H1 R1
    cases et : a.tup? with
    | none => simp only [et] at p; exact False.elim p
    | some xs =>
      simp only [et] at p
      obtain ⟨F1, O1, R1⟩ := R1
      obtain ⟨b, vs, rfl, sq, _, d⟩ := cell_tup R1 R1.tm.1 et
      refine ⟨b, vs, rfl, sq, p _ [_] H1 rfl R1.rel ?_⟩
      intro i σ2 env2 us ue ts2 te2 H2 xs2 hl R2 hrd
      cases hrd
      obtain ⟨F2, O2, j2, R2, c2⟩ := wd_cell hl R2
      obtain ⟨b2, vs2, e2, sq2, _, d2⟩ := cell_tup R2 c2 et
      cases e2
      refine ⟨fun hi => ?_, fun x hx => ?_⟩
      · rw [hi, enumD_len, ← d2.length]; exact (walk_enumT (xs := vs2)).stops H2 sq2
      · have il := (List.getElem?_eq_some_iff.mp hx).1
        rw [enumD_len] at il
        refine ⟨(walk_enumT (xs := vs2)).goes i H2 (by rw [d2.length]; exact il) sq2, fun w H3 hy => ?_⟩
        obtain ⟨T, x1, y1, rfl, nT, rfl, e1, e3⟩ := (walk_enumT (xs := vs2)).yields i H2 w H3 (by rw [d2.length]; exact il) sq2 hy
        obtain ⟨y, hy2, rfl⟩ := enumD_get hx
        obtain ⟨y', hy', dy⟩ := d2.getV e3
        rw [hy2] at hy'
        cases hy'
        cases e1
        exact R2.pushQ nT (.cons (.int _) (.cons dy .nil))
end
end Tw

namespace Tw
open PySem PySem.Spec PyProof.Rows L2
/-! ### an expression that changes nothing -/
def viewA (env : Env) : A → Option A
  | .d x => some (.d x)
  | .sc ns => some (.sc ns)
  | .q xs => some (.q xs)
  | .lk kvs => some (.d (.dict kvs))
  | .xr _ => none
  | .own o => o.dt.map .d
  | .io o => o.dt.map .d
  | .rf i p => ((A.rf i p).val env).map .d
def viewE (env : Env) : Env := env.map fun c => c.bind (viewA env)
def mPure (m : ME) : ME := fun env _ => match m (viewE env) [] with
  | .ok (.d x) _ => if tupD x = true then .ok (.d x) env else .bad
  | .ok (.own o) _ => if o.tup = true then .ok (.own o) env else .bad
  | _ => .bad
/-- the slot j holds a dict -/
def isDict (env : Env) (j : Nat) : Bool := match env[j]? with
  | some (some (.d (.dict _))) => true
  | _ => match owAt env j with
    | some (.dc _) => true
    | some (.dl _) => true
    | _ => false
def mPureK (j : Nat) (m : ME) : ME := fun env te => if isDict env j = true then mPure m env te else .bad
section
variable {K : KW} {B : Bs} {W : WX}
section
variable {F : Hp} {a : Addr} {od : Obj} {us : List (Key × V)}
end
section
variable {F H : Hp} {O : Addr → Option Nat} {σ : List (Option V)} {env : Env} {ts : List V} {te : List A}
end
/-! ### the keys of a dict that is locked -/
def viewK (env : Env) (j : Nat) : Env := match (viewE env)[j]? with
  | some (some (.d (.dict kvs))) => (viewE env).set j (some (.lk kvs))
  | _ => viewE env
def mPureL (j : Nat) (m : ME) : ME := fun env _ => if isDict env j = true then (match m (viewK env j) [] with
  | .ok (.d x) _ => if tupD x = true then .ok (.d x) env else .bad
  | .ok (.own o) _ => if o.tup = true then .ok (.own o) env else .bad
  | _ => .bad) else .bad
def mKI (j : Nat) : MI := fun env te => match env[j]? with
  | some (some (.lk kvs)) => if (kvs.all fun q => flatD q.1) = true then .ok ([.lk kvs], fun _ => some (kvs.map (·.1))) env else .bad
  | _ => .bad
end
end Tw

namespace Tw
open PySem PySem.Spec PyProof.Rows L2
/-! ### dicts -/
def keyD : Dt → Option Key
  | .int i => some (.inl i)
  | .str s => some (.inr s)
  | _ => none
def lkDD (kvs : List (Dt × Dt)) (k : Key) : Option Dt := (kvs.find? fun q => decide (keyD q.1 = some k)).map (·.2)
/-- what stands at a key of a dict: nothing, a datum, or a list of the dict's own -/
inductive Dg where
  | no
  | dt (x : Dt)
  | li
def dgO (env : Env) (a : A) (k : Key) : Option Dg := match a with
  | .d (.dict kvs) => some (match lkDD kvs k with | some x => .dt x | none => .no)
  | .lk kvs => some (match lkDD kvs k with | some x => .dt x | none => .no)
  | .rf i none => match owAt env i with
    | some (.dc kvs) => some (match lkD kvs k with | some x => .dt x | none => .no)
    | some (.dl kvs) => some (match lkD kvs k with | some _ => .li | none => .no)
    | _ => none
  | _ => none
def dgA (env : Env) (a b : A) : Rs A := match (b.val env).bind keyD with
  | some k => (match dgO env a k with
    | some (.dt x) => .ok (.d x) env
    | some .li => (match a with
      | .rf i none => .ok (.rf i (some k)) env
      | _ => .bad)
    | _ => .bad)
  | none => .bad
def dinA (neg : Bool) (env : Env) (b a : A) : Rs A := match (b.val env).bind keyD with
  | some k => (match dgO env a k with
    | some .no => .ok (.d (.bool neg)) env
    | some _ => .ok (.d (.bool (!neg))) env
    | none => .bad)
  | none => .bad
def isDct (env : Env) (a : A) : Bool := match a with
  | .d (.dict _) => true
  | .lk _ => true
  | .rf i none => match owAt env i with
    | some (.dc _) => true
    | some (.dl _) => true
    | _ => false
  | _ => false
def mDGet2 (md mk mx : ME) : ME := fun env te => (md env te).bind fun a e1 => if isDct e1 a = true then (mk e1 (a :: te)).bind fun b e2 => (mx e2 (b :: a :: te)).bind fun c e3 => (match (b.val e3).bind keyD, c with
    | some k, .d y => (match dgO e3 a k with
      | some (.dt x) => .ok (.d x) e3
      | some .no => .ok (.d y) e3
      | _ => .bad)
    | _, _ => .bad) else .bad
def keysA (env : Env) (a : A) : Rs A := match a with
  | .rf i none => match owAt env i with
    | some (.dc kvs) => if (kvs.all fun q => flatD (kD q.1)) = true then .ok (.own (.l (kvs.map fun q => kD q.1))) env else .bad
    | some (.dl kvs) => if (kvs.all fun q => flatD (kD q.1)) = true then .ok (.own (.l (kvs.map fun q => kD q.1))) env else .bad
    | _ => .bad
  | _ => .bad
section
variable {K : KW} {B : Bs} {W : WX}
theorem keyD_kV {F : Hp} {v : V} {x : Dt} {k : Key} (d : Dn K F v x) (h : keyD x = some k) : v = kV k := by
  cases d <;> cases h <;> rfl
theorem keyD_kD (k : Key) : keyD (kD k) = some k := by cases k <;> rfl
theorem dnks_lk {F : Hp} : ∀ {us : List (Key × V)} {kvs : List (Dt × Dt)} (d : DnKs K F us kvs) (k : Key), (∀ x, lkDD kvs k = some x → ∃ v, valV us k = some v ∧ Dn K F v x) ∧ (lkDD kvs k = none → valV us k = none)
  | _, _, .nil, _ => ⟨(fun x h => nomatch h), fun _ => rfl⟩
  | _, _, .cons (k := k') (v := v) h r, k => by
    have ih := dnks_lk r k
    unfold lkDD valV
    rw [List.find?_cons, List.find?_cons]
    simp only [keyD_kD]
    by_cases c : k' = k
    · rw [decide_eq_true c, decide_eq_true (by rw [c])]
      exact ⟨fun x z => ⟨v, rfl, by cases z; exact h⟩, fun z => nomatch z⟩
    · rw [decide_eq_false c, decide_eq_false (fun z => c (Option.some.inj z))]
      exact ih
/-- what a dict's answer means -/
theorem dg_ok {σ : L2.St} {env : Env} {ts : List V} {te : List A} {F H : Hp} {O : Addr → Option Nat} {j : Nat} {v : V} {a : A} {k : Key} {g : Dg} (R : RelF K B F O σ env ts te H) (c : CellO K B F H O σ j v a) (h : dgO env a k = some g) :
    ∃ p us, v = .ref p ∧ Rd H p (.dK us) ∧ (match g with
      | .no => valV us k = none
      | .dt x => ∃ w, valV us k = some w ∧ Dn K F w x
      | .li => ∃ i w, a = .rf i none ∧ valV us k = some w ∧ σ[i]? = some (some v) ∧ O p = some i ∧ H p = some (.dK us)) := by
  have fromD : ∀ {kvs : List (Dt × Dt)} {p : Addr} {us : List (Key × V)}, v = .ref p → Rd H p (.dK us) → DnKs K F us kvs → (some (match lkDD kvs k with | some x => Dg.dt x | none => .no)) = some g → ∃ p us, v = .ref p ∧ Rd H p (.dK us) ∧ (match g with
      | .no => valV us k = none
      | .dt x => ∃ w, valV us k = some w ∧ Dn K F w x
      | .li => ∃ i w, a = .rf i none ∧ valV us k = some w ∧ σ[i]? = some (some v) ∧ O p = some i ∧ H p = some (.dK us)) := fun {kvs p us} e r d h => by
    refine ⟨p, us, e, r, ?_⟩
    obtain ⟨h1, h2⟩ := dnks_lk d k
    cases q : lkDD kvs k with
    | none => rw [q] at h; cases h; exact h2 q
    | some x => rw [q] at h; cases h; exact h1 x q
  cases a with
  | d x =>
    cases x with
    | dict kvs =>
      have c : Dn K F v (.dict kvs) := c
      cases c with
      | dct r d => exact fromD rfl (Same.rd R.sf r) d h
    | _ => cases h
  | lk kvs =>
    obtain ⟨p, o, us, e, hb, d⟩ := c
    exact fromD e (.inr ⟨o, R.sf _ _ (R.b1 _ _ hb)⟩) (d.same R.b1) h
  | rf i pt =>
    cases pt with
    | some _ => cases h
    | none =>
      obtain ⟨w, hw, e⟩ := id c
      have e : v = w := e
      subst e
      cases eo : owAt env i with
      | none => simp only [dgO, eo] at h; cases h
      | some o =>
        have own := R.owAt eo hw
        cases o with
        | l _ => simp only [dgO, eo] at h; cases h
        | ll _ => simp only [dgO, eo] at h; cases h
        | x _ => simp only [dgO, eo] at h; cases h
        | dc kvs =>
          simp only [dgO, eo] at h
          obtain ⟨p, us, e1, op, hp, pr⟩ := own
          refine ⟨p, us, e1, .inl hp, ?_⟩
          obtain ⟨h1, h2⟩ := paired_lk (R := Dn K F) pr k
          cases q : lkD kvs k with
          | none => rw [q] at h; cases h; exact h2 q
          | some x => rw [q] at h; cases h; exact h1 x q
        | dl kvs =>
          simp only [dgO, eo] at h
          obtain ⟨p, us, e1, op, hp, _, _, pr⟩ := own
          refine ⟨p, us, e1, .inl hp, ?_⟩
          obtain ⟨h1, h2⟩ := paired_lk (R := OwL K F H fun a => O a = some i) pr k
          cases q : lkD kvs k with
          | none => rw [q] at h; cases h; exact h2 q
          | some x =>
            rw [q] at h
            cases h
            obtain ⟨w, hw2, _⟩ := h1 x q
            exact ⟨i, w, rfl, hw2, hw, op, hp⟩
  | _ => cases h
theorem se_dnew : SE K B W tDNewK (fun env _ => .ok (.own (.dc [])) env) := by
  intro σ env ts te H Q R p l nl
  obtain ⟨F, O, R⟩ := R
  exact p _ _ ⟨F, _, R.newL nl (o := .dK []) (mutO_dK []) (w := .dc []) fun own hp => ⟨l, [], rfl, hp, upd_same, .nil⟩⟩
theorem se_dget {ta tb : TE} {ma mb : ME} (ha : SE K B W ta ma) (hb : SE K B W tb mb) : SE K B W (tDGet ta tb) (mOp dgA ma mb) := by
  intro σ env ts te H Q R p
  refine ha.thE R p fun a e p v H1 R1 => ?_
  refine hb σ e (v :: ts) (a :: te) H1 _ R1 ?_
  cases q : mb e (a :: te) with
  | ex x e2 => rw [q] at p; exact XPost.push p v a
  | bad => rw [q] at p; exact p
  | ok b e2 =>
    rw [q] at p
    rintro u H2 ⟨F2, O2, R2⟩
    simp only [Rs.bind_ok] at p
    unfold dgA at p
    cases eb : b.val e2 with
    | none => simp only [eb, Option.bind_none] at p; exact False.elim p
    | some y =>
      cases ek : keyD y with
      | none => simp only [eb, Option.bind_some, ek] at p; exact False.elim p
      | some k =>
        simp only [eb, Option.bind_some, ek] at p
        have eu := keyD_kV (cell_val R2 R2.tm.1 eb) ek
        cases eg : dgO e2 a k with
        | none => simp only [eg] at p; exact False.elim p
        | some g =>
          obtain ⟨pa, us, e1, rd, hg⟩ := dg_ok R2 R2.tm.2.1 eg
          cases g with
          | no => simp only [eg] at p; exact False.elim p
          | dt x =>
            simp only [eg] at p
            obtain ⟨w, hw, dw⟩ := hg
            exact ⟨pa, w, e1, .inl ⟨us, k, rd, eu, hw.symm⟩, p _ H2 (R2.pop.pop.pushD dw)⟩
          | li =>
            obtain ⟨i, w, ea, hw, hs, op, hp⟩ := hg
            subst ea
            simp only [eg] at p
            refine ⟨pa, w, e1, .inl ⟨us, k, rd, eu, hw.symm⟩, p _ H2 ⟨F2, _, R2.pop.pop.push (a := .rf i (some k)) ⟨v, hs, pa, e1, ?_, .inr ⟨us, hp, hw⟩⟩⟩⟩
            have jl := (List.getElem?_eq_some_iff.mp hs).1
            have s1 : ∀ n, i ≠ σ.length + n := fun n => by omega
            show (if (if O2 pa = some (σ.length + (v :: ts).length) then none else O2 pa) = some (σ.length + ts.length) then none else (if O2 pa = some (σ.length + (v :: ts).length) then none else O2 pa)) = some i
            rw [op, if_neg (fun z => s1 _ (Option.some.inj z)), if_neg (fun z => s1 _ (Option.some.inj z))]
end
end Tw

namespace Tw
open PySem PySem.Spec PyProof.Rows L2
/-! ### dicts and lists of lists changed -/
section
variable {K : KW} {B : Bs} {W : WX} {F H : Hp}
theorem paired_get' {α β : Type} {R : α → β → Prop} : ∀ {xs : List α} {ys : List β} {i : Nat} {x : α}, Paired R xs ys → xs[i]? = some x → ∃ y, ys[i]? = some y ∧ R x y
  | _, _, _, _, .nil, e => by cases e
  | _, _, 0, _, .cons h _, e => ⟨_, rfl, by cases e; exact h⟩
  | _, _, i + 1, _, .cons _ r, e => paired_get' (i := i) r e
theorem paired_any {α : Type} {R : V → α → Prop} {us : List (Key × V)} {kvs : List (Key × α)} (p : Paired (fun (p : Key × V) (q : Key × α) => p.1 = q.1 ∧ R p.2 q.2) us kvs) (k : Key) : (us.any fun kv => decide (kv.1 = k)) = (kvs.any fun kv => decide (kv.1 = k)) := by
  induction p with
  | nil => rfl
  | cons h _ ih => rw [List.any_cons, List.any_cons, ih, h.1]
theorem paired_put {α : Type} {R : V → α → Prop} {us : List (Key × V)} {kvs : List (Key × α)} {k : Key} {v : V} {x : α} (p : Paired (fun (p : Key × V) (q : Key × α) => p.1 = q.1 ∧ R p.2 q.2) us kvs) (h : R v x) :
    Paired (fun (p : Key × V) (q : Key × α) => p.1 = q.1 ∧ R p.2 q.2) (putK us k v) (putD kvs k x) := by
  have mp : ∀ {us : List (Key × V)} {kvs : List (Key × α)}, Paired (fun (p : Key × V) (q : Key × α) => p.1 = q.1 ∧ R p.2 q.2) us kvs → Paired (fun (p : Key × V) (q : Key × α) => p.1 = q.1 ∧ R p.2 q.2) (us.map fun kv => if kv.1 = k then (kv.1, v) else kv) (kvs.map fun kv => if kv.1 = k then (kv.1, x) else kv) := by
    intro us kvs p
    induction p with
    | nil => exact .nil
    | cons g _ ih2 =>
      rw [List.map_cons, List.map_cons]
      refine .cons ?_ ih2
      rw [g.1]
      split
      · exact ⟨rfl, h⟩
      · exact g
  unfold putK putD
  rw [paired_any p k]
  split
  · exact mp p
  · exact paired_appR p ⟨rfl, h⟩
theorem keys_put {α : Type} {us : List (Key × α)} {k : Key} {v : α} : (putD us k v).map (·.1) = if (us.any fun kv => decide (kv.1 = k)) = true then us.map (·.1) else us.map (·.1) ++ [k] := by
  unfold putD
  split
  · rw [List.map_map]
    refine List.map_congr_left fun q _ => ?_
    show (if q.1 = k then (q.1, v) else q).1 = q.1
    split <;> rfl
  · rw [List.map_append]; rfl
theorem putK_putD (us : List (Key × V)) (k : Key) (v : V) : putK us k v = putD us k v := rfl
theorem nodup_put {us : List (Key × V)} {k : Key} {v : V} (h : (us.map (·.1)).Nodup) : ((putK us k v).map (·.1)).Nodup := by
  rw [putK_putD, keys_put]
  split
  · exact h
  · rename_i c
    rw [List.nodup_append]
    refine ⟨h, List.pairwise_singleton _ _, fun a ha b hb e => c ?_⟩
    rw [List.mem_singleton.mp hb] at e
    obtain ⟨q, hq, eq⟩ := List.mem_map.mp ha
    exact List.any_eq_true.mpr ⟨q, hq, decide_eq_true (eq.trans e)⟩
theorem nodup_putV : ∀ {us : List (Key × V)} {k : Key} {v : V}, (us.map (·.2)).Nodup → (us.map (·.1)).Nodup → v ∉ us.map (·.2) → ((putK us k v).map (·.2)).Nodup := by
  intro us k v h1 h2 h3
  unfold putK
  split
  · rename_i hany
    clear hany
    induction us with
    | nil => exact List.nodup_nil
    | cons q r ih =>
      have n1 := List.nodup_cons.mp (show (q.2 :: r.map (·.2)).Nodup from h1)
      have n2 := List.nodup_cons.mp (show (q.1 :: r.map (·.1)).Nodup from h2)
      have h3' : v ∉ r.map (·.2) := fun z => h3 (List.mem_cons_of_mem _ z)
      rw [List.map_cons, List.map_cons]
      by_cases c : q.1 = k
      · -- no other has this key
        have same : ∀ {r : List (Key × V)}, k ∉ r.map (·.1) → (r.map fun kv => if kv.1 = k then (kv.1, v) else kv) = r := by
          intro r
          induction r with
          | nil => intro _; rfl
          | cons y r ih2 =>
            intro hn
            rw [List.map_cons, ih2 (fun z => hn (List.mem_cons_of_mem _ z)), if_neg (fun z => hn (by rw [← z]; exact List.mem_cons_self))]
        rw [if_pos c, same (by rw [← c]; exact n2.1)]
        exact List.nodup_cons.mpr ⟨h3', n1.2⟩
      · rw [if_neg c]
        refine List.nodup_cons.mpr ⟨fun z => ?_, ih n1.2 n2.2 h3'⟩
        obtain ⟨y, hy, ey⟩ := List.mem_map.mp z
        obtain ⟨w, hw, ew⟩ := List.mem_map.mp hy
        by_cases cw : w.1 = k
        · rw [if_pos cw] at ew
          rw [← ew] at ey
          exact h3 (by rw [show v = q.2 from ey]; exact List.mem_cons_self)
        · rw [if_neg cw] at ew
          rw [← ew] at ey
          exact n1.1 (List.mem_map.mpr ⟨w, hw, ey⟩)
  · rw [List.map_append]
    rw [List.nodup_append]
    refine ⟨h1, List.pairwise_singleton _ _, fun a ha b hb e => h3 ?_⟩
    rw [List.mem_singleton.mp hb] at e
    have e : a = v := e
    rw [← e]; exact ha
theorem mem_putV {us : List (Key × V)} {k : Key} {v w : V} (h : w ∈ (putK us k v).map (·.2)) : w = v ∨ w ∈ us.map (·.2) := by
  unfold putK at h
  split at h
  · obtain ⟨y, hy, ey⟩ := List.mem_map.mp h
    obtain ⟨q, hq, eq⟩ := List.mem_map.mp hy
    split at eq
    · rw [← eq] at ey; exact .inl ey.symm
    · rw [← eq] at ey; exact .inr (List.mem_map.mpr ⟨q, hq, ey⟩)
  · rw [List.map_append] at h
    rcases List.mem_append.mp h with h | h
    · exact .inr h
    · exact .inl (List.mem_singleton.mp h)
end
def ownTo (c : A) (i : Nat) : Option Nat := match c with
  | .own _ => some i
  | _ => none
def putO (o : Ow) (k : Key) (c : A) : Option Ow := match o, c with
  | .dc kvs, .d y => if kvs.length < sizeLine then some (.dc (putD kvs k y)) else none
  | .dc [], .own (.l ys) => some (.dl [(k, ys)])
  | .dl kvs, .own (.l ys) => if kvs.length < sizeLine then some (.dl (putD kvs k ys)) else none
  | _, _ => none
/-- names that refer to the entry k of what slot i owns are forgotten -/
def wipeK (i : Nat) (k : Key) (e : Env) : Env := e.map fun c => match c with
  | some a => if isNestK i k a = true then none else some a
  | none => none
def putA (e : Env) (te : List A) (a b c : A) : Option Env := match (b.val e).bind keyD, a with
  | some k, .rf i none => (match (wipeK i k e)[i]?, owAt (wipeK i k e) i with
    | some (some ca), some o => if anyC (isNestK i k) (wipeK i k e) te = false then (putO o k c).map fun o' => (wipeK i k e).set i (some (reOw ca o')) else none
    | _, _ => none)
  | _, _ => none
def mPut (mv md mk : ME) : MS := fun env te => (mv env te).fl fun c e => (md e (c :: te)).fl fun a e1 => (mk e1 (a :: c :: te)).fl fun b e2 => match putA e2 te a b c with
  | some e' => .nx e'
  | none => .bad
section
variable {K : KW} {B : Bs} {W : WX} {F H : Hp} {O : Addr → Option Nat} {σ : List (Option V)} {env : Env} {ts : List V} {te : List A}
/-- what the slot i owns takes in what the top owns -/
theorem rel_give {u v : V} {i : Nat} {c : A} {o o' : Ow} {ca : A} {p : Addr} {ob : HO} (R : RelF K B F O σ env (v :: ts) (c :: te) H) (hw : σ[i]? = some (some u)) (ea : env[i]? = some (some ca)) (eo : owAt env i = some o) (op : O p = some i) (mo : MutO (some ob))
    (newO : ∀ own' : Addr → Prop, (∀ b, O b = some i ∨ (∃ w, c = .own w ∧ O b = some (σ.length + ts.length)) → own' b) → OwO K F (upd H p ob) own' u o')
    (hnest : ∀ O' : Addr → Option Nat, O' p = some i → ∀ k' w, anyC (isNestK i k') env te = true → atP H O i u w (some k') → atP (upd H p ob) O' i u w (some k')) : Rel K B σ (env.set i (some (reOw ca o'))) ts te (upd H p ob) := by
  have ln := R.ln
  have il : i < σ.length := (List.getElem?_eq_some_iff.mp hw).1
  let O' : Addr → Option Nat := fun b => if O b = some (σ.length + ts.length) then ownTo c i else O b
  have R2 := R.pop
  have hpn : O p ≠ some (σ.length + ts.length) := by rw [op]; exact fun z => by have := Option.some.inj z; omega
  have o1 : ∀ b j, O b = some j → j ≠ σ.length + ts.length → O' b = some j := fun b j z nj => (if_neg (by rw [z]; exact fun y => nj (Option.some.inj y))).trans z
  have hio : ∀ o0, ca = .io o0 → ∃ o'0, reOw ca o' = .io o'0 := fun o0 e => ⟨o', by rw [e]; rfl⟩
  have unp : ∀ b j, (if O b = some (σ.length + ts.length) then none else O b) = some j → O b = some j ∧ j ≠ σ.length + ts.length := fun b j z => by
    split at z
    · cases z
    · rename_i hb; exact ⟨z, fun y => hb (by rw [z, y])⟩
  refine ⟨F, O', R2.chg (O' := O') (H' := upd H p ob) (F' := F) ea hw (Same.refl F) (fun b x e => ?_) (fun j b nj z => ?_) (fun b j z => ?_) (fun b z => ?_) (fun b x hs hB hHb => ?_) (fun b x nb z => ?_) (fun b hb => ?_) (fun b h1 h2 => absurd h1 h2) ?_ hio (fun k' w hany hat => ?_)⟩
  · rw [upd_ne (fun z => by rw [z, (R.of p i op).1] at e; cases e)]
    exact R.sf b x e
  · obtain ⟨z1, nn2⟩ := unp b j z
    exact ⟨o1 b j z1 nn2, upd_ne (fun y => by rw [y, op] at z1; exact nj (Option.some.inj z1).symm), (R.of b j z1).1⟩
  · have z : (if O b = some (σ.length + ts.length) then ownTo c i else O b) = some j := z
    show j = i ∨ (if O b = some (σ.length + ts.length) then none else O b) = some j
    by_cases hb : O b = some (σ.length + ts.length)
    · rw [if_pos hb] at z
      cases c <;> first | (cases z; exact .inl rfl) | cases z
    · rw [if_neg hb] at z ⊢
      exact .inr z
  · have z : (if O b = some (σ.length + ts.length) then ownTo c i else O b) = some i := z
    have mu : ∀ j, O b = some j → MutO (upd H p ob b) := fun j zj => by
      by_cases hb : b = p
      · rw [hb, upd_same]; exact mo
      · rw [upd_ne hb]; exact (R.of b j zj).2.1
    by_cases hb : O b = some (σ.length + ts.length)
    · obtain ⟨q1, q2, q3, q4⟩ := R.of b _ hb
      refine ⟨q1, mu _ hb, .inl ?_⟩
      rcases q4 with y | y
      · exact y
      · obtain ⟨o9, h9⟩ := R.bi _ y.2
        have := (List.getElem?_eq_some_iff.mp h9).1
        omega
    · rw [if_neg hb] at z
      obtain ⟨q1, q2, q3, q4⟩ := R.of b _ z
      exact ⟨q1, mu _ z, q4⟩
  · by_cases hb : b = p
    · subst hb
      rcases (R.of b i op).2.2.2 with y | y
      · exact absurd y hB
      · rw [y.1] at hs; cases hs
    · rw [upd_ne hb]; exact hHb
  · have nb : (if O b = some (σ.length + ts.length) then none else O b) = none := nb
    rw [upd_ne (fun y => by
      rw [y] at nb
      by_cases hb : O p = some (σ.length + ts.length)
      · rw [op] at hb
        have := (List.getElem?_eq_some_iff.mp hw).1
        have := Option.some.inj hb
        omega
      · rw [if_neg hb, op] at nb
        cases nb)]
    exact z
  · by_cases hb2 : b = p
    · rw [hb2, upd_same]; exact nofun
    · rw [upd_ne hb2]; exact hb
  · have od : ∀ b, O b = some i ∨ (∃ w, c = .own w ∧ O b = some (σ.length + ts.length)) → O' b = some i := fun b z => by
      rcases z with z | ⟨w, ew, z⟩
      · exact o1 b i z (by omega)
      · have z9 : O' b = ownTo c i := if_pos z
        rw [z9, ew]
        rfl
    rcases owAt_cell eo with e2 | e2
    · rw [ea] at e2
      cases e2
      refine newO _ fun b z => ⟨od b z, ?_⟩
      rcases z with z | ⟨w, ew, z⟩
      · rcases (R.of b i z).2.2.2 with y | y
        · exact y
        · obtain ⟨o9, h9⟩ := R.bi i y.2
          rw [ea] at h9
          cases h9
      · rcases (R.of b _ z).2.2.2 with y | y
        · exact y
        · obtain ⟨o9, h9⟩ := R.bi _ y.2
          have := (List.getElem?_eq_some_iff.mp h9).1
          omega
    · rw [ea] at e2
      cases e2
      obtain ⟨w', hw', c'⟩ := R.sl i _ ea
      rw [hw] at hw'
      cases hw'
      exact ⟨newO _ od, c'.2⟩
  · refine hnest O' (o1 p i op (by omega)) k' w hany (hat.mono fun _ b z => ?_)
    exact ⟨(unp b i z).1, rfl⟩
/-- a dict with a further entry -/
theorem rel_put {u v : V} {i : Nat} {k : Key} {c : A} {e' : Env} {o : Ow} {ca : A} (R : RelF K B F O σ env (v :: ts) (c :: te) H) (hw : σ[i]? = some (some u)) (ea : env[i]? = some (some ca)) (eo : owAt env i = some o) (nn : anyC (isNestK i k) env te = false)
    (hp : (putO o k c).map (fun o' => env.set i (some (reOw ca o'))) = some e') : ∃ p us, u = .ref p ∧ H p = some (.dK us) ∧ us.length < sizeLine ∧ Rel K B σ e' ts te (upd H p (.dK (putK us k v))) := by
  have own := R.owAt eo hw
  have ln := R.ln
  have il : i < σ.length := (List.getElem?_eq_some_iff.mp hw).1
  cases eq : putO o k c with
  | none => rw [eq] at hp; cases hp
  | some o' =>
    rw [eq] at hp
    cases hp
    -- the general step
    have step : ∀ (p : Addr) (us : List (Key × V)), u = .ref p → O p = some i → H p = some (.dK us) → (∀ own' : Addr → Prop, (∀ b, O b = some i ∨ (∃ w, c = .own w ∧ O b = some (σ.length + ts.length)) → own' b) → OwO K F (upd H p (.dK (putK us k v))) own' u o') →
        Rel K B σ (env.set i (some (reOw ca o'))) ts te (upd H p (.dK (putK us k v))) := by
      intro p us eu op hpp newO
      refine rel_give R hw ea eo op (mutO_dK _) newO fun O' oO k' w hany hat => ?_
      obtain ⟨a2, e2, o2, h2⟩ := hat
      have kk : k' ≠ k := fun z => by rw [z, nn] at hany; cases hany
      rw [eu] at e2
      cases e2
      refine ⟨p, eu, oO, ?_⟩
      rcases h2 with ⟨vs2, m, em, m0, hv2, hm⟩ | ⟨us2, hu2, hval⟩
      · rw [hpp] at hv2; cases hv2
      · rw [hpp] at hu2
        cases hu2
        refine .inr ⟨_, upd_same, ?_⟩
        rw [valV_put, if_neg kk]
        exact hval
    cases o with
    | l _ => cases c <;> cases eq
    | ll _ => cases c <;> cases eq
    | x _ => cases c <;> cases eq
    | dc kvs =>
      obtain ⟨p, us, eu, op, hpp, pr⟩ := own
      have lk := pr.length
      have data : ∀ y, c = .d y → ∃ p us, u = .ref p ∧ H p = some (.dK us) ∧ us.length < sizeLine ∧ Rel K B σ (env.set i (some (reOw ca o'))) ts te (upd H p (.dK (putK us k v))) := fun y ec => by
        subst ec
        unfold putO at eq
        simp only at eq
        split at eq
        · rename_i hz
          cases eq
          refine ⟨p, us, eu, hpp, by rw [lk]; exact hz, step p us eu op hpp fun own' ho => ⟨p, _, eu, ho p (.inl op), upd_same, paired_put (R := Dn K F) pr R.tm.1⟩⟩
        · cases eq
      cases c with
      | d y => exact data y rfl
      | own w =>
        cases w with
        | l ys =>
          cases kvs with
          | nil =>
            cases eq
            cases pr
            refine ⟨p, [], eu, hpp, by decide, step p [] eu op hpp fun own' ho => ?_⟩
            obtain ⟨q, vs, ev, oq, hq, d⟩ := R.tm.1
            subst ev
            have nq : q ≠ p := fun z => by rw [z, op] at oq; have := Option.some.inj oq.1; omega
            refine ⟨p, [(k, .ref q)], eu, ho p (.inl op), upd_same, ⟨List.pairwise_singleton _ _, List.pairwise_singleton _ _⟩, fun z => nq (V.ref.inj (List.mem_singleton.mp z)).symm, .cons ⟨rfl, q, vs, rfl, ho q (.inr ⟨_, rfl, oq.1⟩), by rw [upd_ne nq]; exact hq, d⟩ .nil⟩
          | cons _ _ => cases eq
        | _ => cases kvs <;> cases eq
      | _ => cases kvs <;> cases eq
    | dl kvs =>
      obtain ⟨p, us, eu, op, hpp, nd, nm, pr⟩ := own
      have lk := pr.length
      cases c with
      | own w =>
        cases w with
        | l ys =>
          unfold putO at eq
          simp only at eq
          split at eq
          · rename_i hz
            cases eq
            obtain ⟨q, vs, ev, oq, hq, d⟩ := R.tm.1
            subst ev
            have nq : q ≠ p := fun z => by rw [z, op] at oq; have := Option.some.inj oq.1; omega
            have memO : ∀ w, w ∈ us.map (·.2) → ∃ a2, w = .ref a2 ∧ O a2 = some i := fun w hm => by
              obtain ⟨z, hz, ez⟩ := List.mem_map.mp hm
              obtain ⟨n, hn⟩ := List.getElem?_of_mem hz
              have nl := (List.getElem?_eq_some_iff.mp hn).1
              obtain ⟨y, hy, _, a2, vs2, e2, o2, _⟩ := paired_get' pr hn
              exact ⟨a2, by rw [← ez]; exact e2, o2⟩
            have nin : V.ref q ∉ us.map (·.2) := fun z => by
              obtain ⟨a2, e2, o2⟩ := memO _ z
              cases e2
              rw [oq.1] at o2
              have := Option.some.inj o2
              omega
            refine ⟨p, us, eu, hpp, by rw [lk]; exact hz, step p us eu op hpp fun own' ho => ⟨p, _, eu, ho p (.inl op), upd_same, ⟨nodup_putV nd.1 nd.2 nin, nodup_put nd.2⟩, fun z => ?_, ?_⟩⟩
            · rcases mem_putV z with z | z
              · exact nq (V.ref.inj z).symm
              · exact nm z
            · refine paired_put (R := OwL K F (upd H p (.dK (putK us k (.ref q)))) own') (L2.Paired.mapP pr fun x y z => ⟨z.1, ?_⟩) ⟨q, vs, rfl, ho q (.inr ⟨_, rfl, oq.1⟩), by rw [upd_ne nq]; exact hq, d⟩
              obtain ⟨a2, vs2, e2, o2, h2, d2⟩ := z.2
              refine ⟨a2, vs2, e2, ho a2 (.inl o2), ?_, d2⟩
              by_cases ha : a2 = p
              · rw [ha, hpp] at h2; cases h2
              · rw [upd_ne ha]; exact h2
          · cases eq
        | _ => cases eq
      | _ => cases eq
theorem wipeK_at {i : Nat} {k : Key} {e : Env} {j : Nat} {a : A} (h : (wipeK i k e)[j]? = some (some a)) : e[j]? = some (some a) := by
  unfold wipeK at h
  rw [List.getElem?_map] at h
  cases c : e[j]? with
  | none => rw [c] at h; cases h
  | some x =>
    rw [c] at h
    cases x with
    | none => cases h
    | some y =>
      have h' : (if isNestK i k y = true then none else some y) = some a := Option.some.inj h
      split at h'
      · cases h'
      · rw [h']
theorem rel_wipeK {F : Hp} {O : Addr → Option Nat} {σ : List (Option V)} {e : Env} {ts : List V} {te : List A} {H : Hp} {i : Nat} {k : Key} (R : RelF K B F O σ e ts te H) : RelF K B F O σ (wipeK i k e) ts te H where
  ln := by
    unfold wipeK
    rw [List.length_map]
    exact R.ln
  sl := fun j a h => R.sl j a (wipeK_at h)
  tm := R.tm
  sf := R.sf
  of := R.of
  b1 := R.b1
  b2 := R.b2
  b3 := R.b3
  b5 := R.b5
  tb := R.tb
  bi := fun j hj => by
    obtain ⟨o, h⟩ := R.bi j hj
    refine ⟨o, ?_⟩
    unfold wipeK
    rw [List.getElem?_map, h]
    rfl
theorem ss_put {td tk tv : TE} {md mk mv : ME} (hd : SE K B W td md) (hk : SE K B W tk mk) (hv : SE K B W tv mv) : SS K B W (sDPut td tk tv) (mPut mv md mk) := by
  intro σ env ts te H D R p
  refine hv.thS R p fun c e p v H1 R1 => ?_
  refine hd.thS1 R1 p fun a e1 p u H2 R2 => ?_
  refine hk.thS2 R2 p fun b e2 p w H3 R3 => ?_
  obtain ⟨F, O, R3⟩ := R3
  cases q : putA e2 te a b c with
  | none => simp only [q] at p; exact False.elim p
  | some e' =>
    simp only [q] at p
    have p9 : ∀ σ H, Rel K B σ e' ts te H → D.nx σ H := p
    unfold putA at q
    cases eb : b.val e2 with
    | none => rw [eb] at q; cases q
    | some y =>
      cases ek : keyD y with
      | none => rw [eb, Option.bind_some, ek] at q; cases q
      | some k =>
        rw [eb, Option.bind_some, ek] at q
        have eu := keyD_kV (cell_val R3 R3.tm.1 eb) ek
        cases a with
        | rf i pt =>
          cases pt with
          | some _ => cases q
          | none =>
            simp only at q
            have R5 := rel_wipeK (i := i) (k := k) R3
            cases ea : (wipeK i k e2)[i]? with
            | none => rw [ea] at q; cases q
            | some oa =>
              cases oa with
              | none => rw [ea] at q; cases q
              | some ca =>
                cases eo : owAt (wipeK i k e2) i with
                | none => rw [ea, eo] at q; cases q
                | some o =>
                  rw [ea, eo] at q
                  simp only at q
                  split at q
                  · rename_i nn
                    obtain ⟨u', hw, e1⟩ := R3.tm.2.1
                    have e1 : u = u' := e1
                    subst e1
                    obtain ⟨pa, us, ep, hp, hl, R4⟩ := rel_put (R5.pop.pop) hw ea eo nn q
                    exact ⟨pa, _, ep, .inl ⟨us, k, hp, eu, hl, rfl⟩, p9 σ _ R4⟩
                  · cases q
        | _ => cases q
/-! ### lists of lists -/
def appLA : Env → List A → A → List A → Rs A := fun e te o as => match as, o with
  | [.own (.l ys)], .rf i none => (match e[i]?, owAt e i with
    | some (some ca), some (.ll xss) => if xss.length < sizeLine ∧ anyC (isNest i) e te = false then .ok (.d .none) (e.set i (some (reOw ca (.ll (xss ++ [ys]))))) else .bad
    | _, _ => .bad)
  | _, _ => .bad
end
end Tw

namespace Tw
open PySem PySem.Spec PyProof.Rows L2
section
variable {K : KW} {B : Bs} {W : WX} {F H : Hp} {O : Addr → Option Nat} {σ : List (Option V)} {env : Env} {ts : List V} {te : List A}
end
def popLA : Env → List A → A → List A → Rs A := fun e te o as => match as, o with
  | [], .rf i none => (match e[i]?, owAt e i with
    | some (some ca), some (.ll xss) => (match xss[xss.length - 1]? with
      | some ys => if anyC (isNest i) e te = false then .ok (.d (.list ys)) (e.set i (some (reOw ca (.ll xss.dropLast)))) else .bad
      | none => .bad)
    | _, _ => .bad)
  | _, _ => .bad
/-- append, pop of both kinds -/
def orM (f g : Env → List A → A → List A → Rs A) : Env → List A → A → List A → Rs A := fun e te o as => match f e te o as with
  | .bad => g e te o as
  | r => r
section
variable {K : KW} {B : Bs} {W : WX}
/-- [[]] -/
def mNest : ME := fun env _ => .ok (.own (.ll [[]])) env
/-- the top goes into what lies under it -/
theorem RelF.join {F H H' : Hp} {O : Addr → Option Nat} {σ : List (Option V)} {env : Env} {ts : List V} {te : List A} {y w : V} {c : A} {o o' : Ow} (R : RelF K B F O σ env (y :: w :: ts) (c :: .own o :: te) H) (hH : ∀ b, O b ≠ some (σ.length + ts.length) → H' b = H b) (hn : ∀ b, O b = some (σ.length + ts.length) → MutO (H' b))
    (new : OwO K F H' (fun a => (O a = some (σ.length + ts.length) ∨ O a = some (σ.length + ts.length + 1)) ∧ B.H a = none) w o') : RelF K B F (fun b => if O b = some (σ.length + ts.length + 1) then some (σ.length + ts.length) else O b) σ env (w :: ts) (.own o' :: te) H' := by
  have ln := R.ln
  have kb : ∀ j, j < σ.length + ts.length → ∀ b, O b = some j → (fun b => if O b = some (σ.length + ts.length + 1) then some (σ.length + ts.length) else O b) b = some j ∧ H' b = H b := fun j nj b z =>
    ⟨(if_neg (by rw [z]; exact fun q => by have := Option.some.inj q; omega)).trans z, hH b (by rw [z]; exact fun q => by have := Option.some.inj q; omega)⟩
  have rf : ∀ j w, σ[j]? = some (some w) → j < σ.length + ts.length := fun j w e => by have := (List.getElem?_eq_some_iff.mp e).1; omega
  have cm : ∀ {j : Nat} {u : V} {c : A}, CellO K B F H O σ j u c → j < σ.length + ts.length → CellO K B F H' (fun b => if O b = some (σ.length + ts.length + 1) then some (σ.length + ts.length) else O b) σ j u c := fun {j u c} h nj => by
    refine h.mono (Same.refl F) (kb j nj) (fun _ _ => rfl) (fun _ _ _ _ z => z) (fun i k e b z => ?_)
    rw [e] at h
    obtain ⟨w, hw, _⟩ := h
    exact kb i (rf i w hw) b z
  have tm : ∀ {us : List V} {ue : List A}, us.length ≤ ts.length → TmO K B F H O σ us ue → TmO K B F H' (fun b => if O b = some (σ.length + ts.length + 1) then some (σ.length + ts.length) else O b) σ us ue := fun {us} => by
    induction us with
    | nil => intro ue _ h; cases ue with
      | nil => trivial
      | cons => exact h.elim
    | cons u us ih =>
      intro ue hl h
      cases ue with
      | nil => exact h.elim
      | cons x ue =>
        rw [List.length_cons] at hl
        exact ⟨cm h.1 (by omega), ih (by omega) h.2⟩
  have nbH : ∀ b j, O b = some j → σ.length ≤ j → B.H b = none := fun b j zj lj => by
    rcases (R.of b j zj).2.2.2 with y | y
    · exact y
    · obtain ⟨o9, h9⟩ := R.bi _ y.2
      have := (List.getElem?_eq_some_iff.mp h9).1
      omega
  refine ⟨ln, fun j c e => ?_, ⟨?_, tm (Nat.le_refl _) R.tm.2.2⟩, fun b u e => ?_, fun b j z => ?_, R.b1, fun b u hs ht e => ?_, R.b3, fun b e => ?_, R.bi, R.tb.1, R.tb.2.mono fun b o t z => by rw [hH b (by rw [R.noT t z]; exact nofun)]; exact z⟩
  · obtain ⟨u, e1, h⟩ := R.sl j c e
    exact ⟨u, e1, cm h (rf j u e1)⟩
  · refine OwO.mono (own := fun a => (O a = some (σ.length + ts.length) ∨ O a = some (σ.length + ts.length + 1)) ∧ B.H a = none) (Same.refl F) (fun a z => ⟨?_, z.2⟩) (fun _ _ => rfl) new
    rcases z.1 with z | z
    · exact (if_neg (by rw [z]; exact fun q => by have := Option.some.inj q; omega)).trans z
    · exact if_pos z
  · by_cases hb : O b = some (σ.length + ts.length)
    · rw [(R.of b _ hb).1] at e
      cases e
    · rw [hH b hb]
      exact R.sf b u e
  · have z : (if O b = some (σ.length + ts.length + 1) then some (σ.length + ts.length) else O b) = some j := z
    by_cases h1 : O b = some (σ.length + ts.length + 1)
    · rw [if_pos h1] at z
      cases z
      obtain ⟨q1, q2, q3, q4⟩ := R.of b _ h1
      refine ⟨q1, ?_, by rw [List.length_cons]; omega, .inl (nbH b _ h1 (by omega))⟩
      rw [hH b (by rw [h1]; exact fun q => by have := Option.some.inj q; omega)]
      exact q2
    · rw [if_neg h1] at z
      obtain ⟨q1, q2, q3, q4⟩ := R.of b j z
      refine ⟨q1, ?_, ?_, q4⟩
      · by_cases hb : O b = some (σ.length + ts.length)
        · exact hn b hb
        · rw [hH b hb]; exact q2
      · rw [List.length_cons, List.length_cons] at q3
        rw [List.length_cons]
        have : j ≠ σ.length + ts.length + 1 := fun y => h1 (by rw [z, y])
        omega
  · by_cases hb : O b = some (σ.length + ts.length)
    · rw [nbH b _ hb (by omega)] at e; cases e
    · rw [hH b hb]
      exact R.b2 b u hs ht e
  · by_cases hb : O b = some (σ.length + ts.length)
    · exact (hn b hb).1
    · rw [hH b hb]
      exact R.b5 b e
/-! ### dict displays -/
def flatM : List (ME × ME) → MA
  | [] => mNil
  | (k, v) :: r => mCons k (mCons v (flatM r))
def pairUp {α : Type} : List α → List (α × α)
  | k :: v :: r => (k, v) :: pairUp r
  | _ => []
def keyPs : List (Dt × Dt) → Option (List (Key × Dt))
  | [] => some []
  | (k, x) :: r => match keyD k, keyPs r with
    | some k', some r' => some ((k', x) :: r')
    | _, _ => none
def mergeD (kvs : List (Key × Dt)) : List (Key × Dt) := kvs.foldl (fun acc kv => putD acc kv.1 kv.2) []
def mDisp (ms : List (ME × ME)) : ME := fun env te => (flatM ms env (.own (.dc []) :: te)).bind fun as e => match (dAll as).bind fun xs => keyPs (pairUp xs) with
  | some kvs => if kvs.length ≤ 15 then .ok (.own (.dc (mergeD kvs))) e else .bad
  | none => .bad
/-- {k: a list} -/
def mDisp1 (mk mv : ME) : ME := fun env te => (mk env (.own (.dc []) :: te)).bind fun a e1 => (mv e1 (a :: .own (.dc []) :: te)).bind fun b e2 => match a, b with
  | .d kd, .own (.l ys) => (match keyD kd with
    | some k => .ok (.own (.dl [(k, ys)])) e2
    | none => .bad)
  | _, _ => .bad
end
end Tw

namespace Tw
open PySem PySem.Spec PyProof.Rows L2
/-! ### calls that raise nothing -/
def DRs.noX : DRs → DRs
  | .ex _ _ => .bad
  | r => r
@[simp] theorem DRs.noX_ok (a : A) (l : List A) : (DRs.ok a l).noX = .ok a l := rfl
@[simp] theorem DRs.noX_bad : DRs.bad.noX = .bad := rfl
def noXf (f : DF) : DF := fun as => (f as).noX
/-- a def's promise, with the number of its parameters -/
def spN (K : KW) (f : DF) (k : Nat) : Sp := fun vs H Q E => vs.length = k ∧ spM K f vs H Q E
/-- the law itself: a script, and True -/
def sp_law (K : PySem.W.Frag) : Sp := fun vs H Q _ => ∃ (a : Addr) (ns : List Int), vs = [.ref a] ∧ SqL K H a (ns.map V.int) ∧ ns.length ≤ 63 ∧ ∀ H', Q (.bl true) H'
/-- the law itself, with its tables of code objects, empty as yet -/
def sp_lawT (K : KW) : Sp := fun vs H Q _ => ∃ (a : Addr) (ns : List Int), vs = [.ref a] ∧ SqL K H a (ns.map V.int) ∧ ns.length ≤ 63 ∧ (∀ p ∈ K.T, H p.1 = some (.tbl #[])) ∧ ∀ H', Q (.bl true) H'
theorem law_pureT {K : KW} {f : DF} (h : ∀ ns : List Int, ns.length ≤ 63 → ∃ ios, f [.sc ns] = .ok (.d (.bool true)) ios) (vs : List V) (H : Hp) (Q : VK) (E : XK) (p : sp_lawT K vs H Q E) : spM K f vs H Q E := by
  obtain ⟨a, ns, rfl, hS, hl, hT, q⟩ := p
  obtain ⟨ios, hf⟩ := h ns hl
  let F0 : Hp := fun b => if (K.T.any fun p => p.1 == b) = true then none else H b
  have f0 : ∀ b o, F0 b = some o → H b = some o := fun b o e => by
    have e : (if (K.T.any fun p => p.1 == b) = true then none else H b) = some o := e
    split at e
    · cases e
    · exact e
  have f1 : ∀ b o, (∀ ps, o ≠ .tbl ps) → H b = some o → F0 b = some o := fun b o n e => by
    show (if (K.T.any fun p => p.1 == b) = true then none else H b) = some o
    rw [if_neg]
    · exact e
    · intro z
      obtain ⟨p, hp, e2⟩ := List.any_eq_true.mp z
      have e2 := beq_iff_eq.mp e2
      have t := hT p hp
      rw [e2, e] at t
      exact n _ (Option.some.inj t)
  have hS' : SqL K F0 a (ns.map V.int) := by
    rcases hS with (z | ⟨o, z⟩) | z
    · exact .inl (.inl (f1 _ _ (fun _ z => nomatch z) z))
    · exact .inl (.inr ⟨o, f1 _ _ (fun _ z => nomatch z) z⟩)
    · exact .inr z
  refine ⟨F0, fun _ => none, [.sc ns], fun _ => none, fun _ => false, rfl, fun i x e => ?_, ⟨rfl, fun i x e => ?_, trivial, f0, fun b j z => (nomatch z), Same.refl F0, fun b o _ _ e => e, fun b h1 h2 => absurd h1 h2, fun b h => h, (fun i h => nomatch h), fun p hp => ⟨?_, ?_, rfl⟩, fun p hp => LamX.TabS.nil (hT p hp)⟩, ?_⟩
  · match i, e with
    | 0, e => cases e; exact .inr (.inl ⟨ns, rfl⟩)
    | n + 1, e => simp at e
  · match i, e with
    | 0, e => cases e; exact ⟨.ref a, rfl, a, rfl, hS'⟩
    | n + 1, e => simp at e
  · show (if (K.T.any fun q => q.1 == p.1) = true then none else H p.1) = none
    exact if_pos (show (K.T.any fun q => q.1 == p.1) = true from List.any_eq_true.mpr ⟨p, hp, by show (p.1 == p.1) = true; exact beq_self_eq_true _⟩)
  · show H p.1 ≠ none
    rw [hT p hp]
    exact nofun
  · rw [hf]
    intro F O v H' R c
    have c : Dn K F v (.bool true) := c
    cases c
    exact q H'
theorem law_pure {K : KW} {f : DF} (h : ∀ ns : List Int, ns.length ≤ 63 → ∃ ios, f [.sc ns] = .ok (.d (.bool true)) ios) (vs : List V) (H : Hp) (Q : VK) (E : XK) (p : sp_law K vs H Q E) (hT : K.T = [] := by rfl) : spM K f vs H Q E := by
  obtain ⟨a, ns, e, hS, hl, q⟩ := p
  exact law_pureT h vs H Q E ⟨a, ns, e, hS, hl, (fun p hp => by rw [hT] at hp; cases hp), q⟩
/-! ### a, b = e1, e2 -/
def mPar (i j : Nat) (m : MA) : MS := fun env te => (m env te).fl fun as e => match as with
  | [a, b] => (match gN j b e (a :: te) with
    | some e1 => (match gN i a e1 te with
      | some e2 => .nx e2
      | none => .bad)
    | none => .bad)
  | _ => .bad
def mPar3 (i j l : Nat) (m : MA) : MS := fun env te => (m env te).fl fun as e => match as with
  | [a, b, c] => (match gN l c e (b :: a :: te) with
    | some e0 => (match gN j b e0 (a :: te) with
      | some e1 => (match gN i a e1 te with
        | some e2 => .nx e2
        | none => .bad)
      | none => .bad)
    | none => .bad)
  | _ => .bad
def mChain (g1 g2 : Dt → Dt → Option Dt) (ma mb mc : ME) : ME := fun env te => (ma env te).bind fun a e1 => (mb e1 (a :: te)).bind fun b e2 => match (match a.val e2, b.val e2 with | some x, some y => g1 x y | _, _ => none) with
  | some (.bool true) => if isIo b = true then .bad else (mc e2 (b :: te)).bind fun c e4 => fl2 g2 e4 b c
  | some (.bool false) => .ok (.d (.bool false)) e2
  | _ => .bad
section
variable {K : KW} {B : Bs} {W : WX}
theorem se_call0 {f : DF} {io : List Bool} {k : Nat} {t : TA} {m : MA} (hk : io.length = k) (h : SA K B W t m) : SE K B W (tCall (spN K f k) [] E0 t) (mCall (noXf f) io m) := by
  refine se_callG (sp := spN K f k) (E := fun _ => E0) (fun σ vs H Q hv p => ?_) h
  obtain ⟨F, O, as, S, io, hl, kd, R, p⟩ := p
  refine ⟨hv.trans hk, F, O, as, S, io, hl, kd, R, ?_⟩
  unfold noXf at p
  cases q : f as with
  | ok r ios => rw [q] at p; exact p
  | ex x ios => rw [q] at p; exact False.elim p
  | bad => rw [q] at p; exact p
theorem ss_par {i j : Nat} {t : TA} {m : MA} (h : SA K B W t m) (hij : i ≠ j) : SS K B W (tPar i j t) (mPar i j m) := by
  intro σ env ts te H D R p
  refine h σ env ts te H _ R ?_
  unfold mPar at p
  cases q : m env te with
  | ex x e => rw [q] at p; exact p σ
  | bad => rw [q] at p; exact p
  | ok as e =>
    rw [q] at p
    simp only [Rs.fl_ok] at p
    intro vs H1 hl R1
    match as, vs, hl, p, R1 with
    | [a, b], [v, w], _, p, R1 =>
      refine ⟨v, w, rfl, ?_⟩
      cases q1 : gN j b e (a :: te) with
      | none => simp only [q1] at p; exact False.elim p
      | some e1 =>
        simp only [q1] at p
        cases q2 : gN i a e1 te with
        | none => simp only [q2] at p; exact False.elim p
        | some e2 =>
          simp only [q2] at p
          rw [List.set_comm _ _ hij]
          exact p _ _ (rel_set (rel_set R1 q1) q2)
    | [], [], _, p, _ => exact False.elim p
    | [_], [_], _, p, _ => exact False.elim p
    | _ :: _ :: _ :: _, _ :: _ :: _ :: _, _, p, _ => exact False.elim p
/-- a, b = x, y where a pair is made (names of cells) -/
theorem ss_parT {i j : Nat} {t : TA} {m : MA} (h : SA K B W t m) (hij : i ≠ j) : SS K B W (tAsg (tTupF t) (gTup K 2 (gNames [i, j]))) (mPar i j m) := by
  intro σ env ts te H D R p
  refine h σ env ts te H _ R ?_
  unfold mPar at p
  cases q : m env te with
  | ex x e => rw [q] at p; exact p σ
  | bad => rw [q] at p; exact p
  | ok as e =>
    rw [q] at p
    simp only [Rs.fl_ok] at p
    intro vs H1 hl R1
    match as, vs, hl, p, R1 with
    | [a, b], [v, w], _, p, R1 =>
      refine ⟨by show 2 ≤ sizeLine; rw [PySem.sizeLine_eq]; decide, fun pp ob nl hob => ⟨pp, [v, w], rfl, .inl (.inr ⟨ob, upd_same⟩), rfl, g_names rfl ?_⟩⟩
      obtain ⟨F, O, R1⟩ := R1
      have R2 : Rel K B σ e ([v, w].reverse ++ ts) ([a, b].reverse ++ te) _ := ⟨_, _, R1.new nl (.frz ob (.tup [v, w]))⟩
      cases q1 : gN j b e (a :: te) with
      | none => simp only [q1] at p; exact False.elim p
      | some e1 =>
        simp only [q1] at p
        cases q2 : gN i a e1 te with
        | none => simp only [q2] at p; exact False.elim p
        | some e2 =>
          simp only [q2] at p
          show D.nx ((σ.set i (some v)).set j (some w)) _
          rw [List.set_comm _ _ hij]
          exact p _ _ (rel_set (rel_set R2 q1) q2)
    | [], [], _, p, _ => exact False.elim p
    | [_], [_], _, p, _ => exact False.elim p
    | _ :: _ :: _ :: _, _ :: _ :: _ :: _, _, p, _ => exact False.elim p
theorem ss_par3 {i j l : Nat} {t : TA} {m : MA} (h : SA K B W t m) (h1 : i ≠ j) (h2 : i ≠ l) (h3 : j ≠ l) : SS K B W (tPar3 i j l t) (mPar3 i j l m) := by
  intro σ env ts te H D R p
  refine h σ env ts te H _ R ?_
  unfold mPar3 at p
  cases q : m env te with
  | ex x e => rw [q] at p; exact p σ
  | bad => rw [q] at p; exact p
  | ok as e =>
    rw [q] at p
    simp only [Rs.fl_ok] at p
    intro vs H1 hl R1
    match as, vs, hl, p, R1 with
    | [a, b, c], [v, w, x], _, p, R1 =>
      refine ⟨v, w, x, rfl, ?_⟩
      cases q0 : gN l c e (b :: a :: te) with
      | none => simp only [q0] at p; exact False.elim p
      | some e0 =>
        simp only [q0] at p
        cases q1 : gN j b e0 (a :: te) with
        | none => simp only [q1] at p; exact False.elim p
        | some e1 =>
          simp only [q1] at p
          cases q2 : gN i a e1 te with
          | none => simp only [q2] at p; exact False.elim p
          | some e2 =>
            simp only [q2] at p
            have := p _ _ (rel_set (rel_set (rel_set R1 q0) q1) q2)
            rw [List.set_comm _ _ h1, List.set_comm _ _ h2, List.set_comm _ _ h3]
            exact this
    | [], [], _, p, _ => exact False.elim p
    | [_], [_], _, p, _ => exact False.elim p
    | [_, _], [_, _], _, p, _ => exact False.elim p
    | _ :: _ :: _ :: _ :: _, _ :: _ :: _ :: _ :: _, _, p, _ => exact False.elim p
end
end Tw

namespace Tw
open PySem PySem.Spec PyProof.Rows L2
def mDnew : ME := fun env _ => .ok (.own (.dc [])) env
section
variable {K : KW} {B : Bs} {W : WX}
end
/-! ### texts in order -/
def leS (a b : Str) : Bool := !ltCps b.cps.toList a.cps.toList
theorem ltCps_irrefl : ∀ a : List Nat, ltCps a a = false
  | [] => rfl
  | a :: r => by
    show (decide (a < a) || (a == a && ltCps r r)) = false
    rw [ltCps_irrefl r]
    simp
theorem ltCps_trans : ∀ a b c : List Nat, ltCps a b = true → ltCps b c = true → ltCps a c = true
  | [], [], c, h, _ => by cases h
  | [], _ :: _, [], _, h => by cases h
  | [], _ :: _, _ :: _, _, _ => rfl
  | _ :: _, [], _, h, _ => by cases h
  | _ :: _, _ :: _, [], _, h => by cases h
  | a :: r, b :: t, c :: u, h1, h2 => by
    have h1' : (decide (a < b) || (a == b && ltCps r t)) = true := h1
    have h2' : (decide (b < c) || (b == c && ltCps t u)) = true := h2
    show (decide (a < c) || (a == c && ltCps r u)) = true
    simp only [Bool.or_eq_true, Bool.and_eq_true, decide_eq_true_eq, beq_iff_eq] at h1' h2' ⊢
    rcases h1' with x | ⟨x, y⟩
    · rcases h2' with z | ⟨z, v⟩
      · exact .inl (by omega)
      · exact .inl (by omega)
    · rcases h2' with z | ⟨z, v⟩
      · exact .inl (by omega)
      · exact .inr ⟨by omega, ltCps_trans r t u y v⟩
theorem ltCps_tri : ∀ a b : List Nat, ltCps a b = false → ltCps b a = false → a = b
  | [], [], _, _ => rfl
  | [], _ :: _, h, _ => by cases h
  | _ :: _, [], _, h => by cases h
  | a :: r, b :: t, h1, h2 => by
    have h1' : (decide (a < b) || (a == b && ltCps r t)) = false := h1
    have h2' : (decide (b < a) || (b == a && ltCps t r)) = false := h2
    simp only [Bool.or_eq_false_iff, decide_eq_false_iff_not, Bool.and_eq_false_iff, beq_eq_false_iff_ne] at h1' h2'
    have e : a = b := by omega
    subst e
    rcases h1'.2 with h | h
    · exact absurd rfl h
    · rcases h2'.2 with h' | h'
      · exact absurd rfl h'
      · rw [ltCps_tri r t h h']
theorem leS_trans (a b c : Str) (h1 : leS a b = true) (h2 : leS b c = true) : leS a c = true := by
  unfold leS at *
  simp only [Bool.not_eq_true'] at *
  cases h : ltCps c.cps.toList a.cps.toList with
  | false => rfl
  | true =>
    cases hb : ltCps a.cps.toList b.cps.toList with
    | true =>
      rw [ltCps_trans _ _ _ h hb] at h2
      cases h2
    | false =>
      have e := ltCps_tri _ _ hb h1
      rw [e] at h
      rw [h] at h2
      cases h2
theorem leS_total (a b : Str) : (leS a b || leS b a) = true := by
  unfold leS
  cases h : ltCps b.cps.toList a.cps.toList with
  | false => rfl
  | true =>
    cases h2 : ltCps a.cps.toList b.cps.toList with
    | false => rfl
    | true =>
      have := ltCps_trans _ _ _ h h2
      rw [ltCps_irrefl] at this
      cases this
theorem leS_anti (a b : Str) (h1 : leS a b = true) (h2 : leS b a = true) : a = b := by
  unfold leS at *
  simp only [Bool.not_eq_true'] at *
  exact TL.ext_tl (ltCps_tri _ _ h2 h1)
def srtS (l : List Str) : List Str := l.mergeSort leS
theorem rising_pw : ∀ (p : Str) (l : List Str), risingS p l = true → (p :: l).Pairwise (fun a b => leS a b = true)
  | p, [], _ => List.pairwise_singleton _ _
  | p, x :: r, h => by
    have h' : (!ltCps x.cps.toList p.cps.toList && risingS x r) = true := h
    rw [Bool.and_eq_true] at h'
    have ih := rising_pw x r h'.2
    refine List.pairwise_cons.mpr ⟨fun y hy => ?_, ih⟩
    rcases List.mem_cons.mp hy with rfl | hy
    · exact h'.1
    · exact leS_trans _ _ _ h'.1 ((List.pairwise_cons.mp ih).1 y hy)
theorem sortedS_pw : ∀ l : List Str, sortedS l = true → l.Pairwise (fun a b => leS a b = true)
  | [], _ => List.Pairwise.nil
  | x :: r, h => rising_pw x r h
theorem perm_sorted {α : Type} {le : α → α → Prop} (anti : ∀ a b, le a b → le b a → a = b) : ∀ {l m : List α}, l.Perm m → l.Pairwise le → m.Pairwise le → l = m
  | [], m, p, _, _ => by
    have := p.length_eq
    cases m with
    | nil => rfl
    | cons => cases this
  | x :: l, [], p, _, _ => by
    have := p.length_eq
    cases this
  | x :: l, y :: m, p, h1, h2 => by
    have e : x = y := by
      have hx : x ∈ y :: m := p.subset List.mem_cons_self
      have hy : y ∈ x :: l := p.symm.subset List.mem_cons_self
      rcases List.mem_cons.mp hx with e | hx
      · exact e
      · rcases List.mem_cons.mp hy with e | hy
        · exact e.symm
        · exact anti x y ((List.pairwise_cons.mp h1).1 y hy) ((List.pairwise_cons.mp h2).1 x hx)
    subst e
    rw [perm_sorted anti (List.Perm.cons_inv p) (List.pairwise_cons.mp h1).2 (List.pairwise_cons.mp h2).2]
theorem srtS_pw (l : List Str) : (srtS l).Pairwise (fun a b => leS a b = true) := List.pairwise_mergeSort leS_trans leS_total l
theorem srtS_perm (l : List Str) : (srtS l).Perm l := List.mergeSort_perm l leS
/-- what sorted gives is this list -/
theorem srtS_of {ys l : List Str} (p : ys.Perm l) (h : sortedS ys = true) : ys = srtS l :=
  perm_sorted (fun a b => leS_anti a b) (p.trans (srtS_perm l).symm) (sortedS_pw ys h) (srtS_pw l)
theorem strs_len {K : KW} {F : Hp} : ∀ {ds : List Dt} {vs : List V} {ss : List Str}, DnAll K F vs ds → strsD ds = some ss → ∀ s ∈ ss, s.length ≤ sizeLine
  | [], _, _, .nil, h, s, hs => by cases h; cases hs
  | d :: ds, _, ss, .cons h1 r, h, s, hs => by
    cases h1 with
    | str z hz =>
      unfold strsD at h
      cases q : strsD ds with
      | none => rw [q] at h; cases h
      | some ss' =>
        rw [q] at h
        cases h
        rcases List.mem_cons.mp hs with rfl | hs
        · exact hz
        · exact strs_len r q s hs
    | _ => cases h
/-! ### a, b = a list -/
def gL (is : List Nat) : MG := fun a env te => match a.lst? env with
  | some xs => gTs is xs env te
  | none => none
end Tw

namespace Tw
open PySem PySem.Spec PyProof.Rows L2
/-! ### sorted of a tuple or a list of texts, however many -/
section
variable {prog : Program} {w : World} {A : Around} {E : Value → Shared → Prop} {s : Shared}
theorem collect_tup {l : Addr} {vs : List Value} {Q : List Value → Shared → Prop} (hl : s.heap.IsTuple l vs.toArray)
    (h : Q vs { s with heap := (s.heap.push (seqObj "list" #[] 0)).update s.heap.objs.size (Obj.mapSeq (· ++ vs.toArray)) }) (hsz : vs.length ≤ sizeLine) :
    wpAny (model prog w) A (collect (.ref l)) Q E s := by
  obtain ⟨o, ho, hc, n, hd⟩ := id hl
  have hne : s.heap.objs.size ≠ l := Nat.ne_of_gt (Heap.lt_size ho)
  unfold collect
  refine wpAny_bind (wpAny_runValue (codeAny_builtin entry_proto_collect' ?_))
  show wpAny _ _ (do again (.builtin "list.__iadd__" ⟨[← newList [], .ref l], []⟩)) _ _ s
  refine wpAny_bind (wpAny_newList (wpAny_pure ⟨Code.quiet_builtin _ (by decide +kernel), codeAny_builtin entry_list_iadd' ?_⟩))
  show wpAny _ _ (Builtin.List.listExtendWith (.ref s.heap.objs.size) (.ref l) (.ref s.heap.objs.size)) _ _ { s with heap := s.heap.push (seqObj "list" #[] 0) }
  unfold Builtin.List.listExtendWith
  have ho' : (s.heap.push (seqObj "list" #[] 0)).get? l = some o := Heap.get?_push_of_some _ ho
  refine wpAny_bind (wpAny_typeOf (T := "tuple") ⟨o, ho', hc⟩ ?_)
  have ht : (Value.type "tuple" == Value.type "tuple") = true := by rfl
  rw [if_pos (by rw [ht]; simp)]
  refine wpAny_bind (listItems_at ho' hd ?_)
  refine wpAny_bind (listItems_at (xs := #[]) (n := 0) (Heap.get?_push_size _ rfl) rfl ?_)
  rw [if_neg (by simp)]
  refine wpAny_bind (listUpdate_at (xs := #[]) (n := 0) (Heap.get?_push_size _ rfl) rfl ?_ (Nat.zero_le _) (by show (#[] ++ vs.toArray).size ≤ sizeLine + 1; simp only [Array.size_append, List.size_toArray, List.length_nil]; omega))
  refine wpAny_pure ?_
  show wpAny (model prog w) A (do
      let o ← load s.heap.objs.size
      match o.data with
      | .seq xs _ => pure xs.toList
      | _ => unsupported "internal:collect") Q E { s with heap := (s.heap.push (seqObj "list" #[] 0)).update s.heap.objs.size (Obj.mapSeq (· ++ vs.toArray)) }
  refine wpAny_bind (wpAny_load (get?_update_seq (Heap.get?_push_size _ rfl) _) ?_)
  show wpAny _ _ (pure ((#[] : Array Value) ++ vs.toArray).toList) Q E _
  rw [show ((#[] : Array Value) ++ vs.toArray).toList = vs by simp]
  exact wpAny_pure h
theorem sorted_tupS {l : Addr} {vs : List Value} {ss : List Str} {Q : Value → Shared → Prop} (hl : s.heap.IsTuple l vs.toArray) (hS : StrsAre vs ss) (hL : vs.length ≤ sizeLine)
    (h : ∀ (out : Array Value) (ss' : List Str), StrsAre out.toList ss' → ss'.Perm ss → sortedS ss' = true → Q (.ref (s.heap.objs.size + 1)) { s with heap := sortedAll s.heap vs out }) :
    wpAny (model prog w) A (call (.builtin "sorted") [.ref l]) Q E s := by
  refine Calls.call_function_entry kind_sorted plain_sorted entry_sorted (args_sorted1 _) ?_
  unfold Builtin.«sorted»
  refine wpAny_bind (m := checkCount "sorted" 1 1 _) (wpAny_pure ?_)
  refine wpAny_bind (collect_tup hl ?_ hL)
  refine wpAny_bind (wpAny_newList ?_ hL)
  have hsz : ((s.heap.push (seqObj "list" #[] 0)).update s.heap.objs.size (Obj.mapSeq (· ++ vs.toArray))).objs.size = s.heap.objs.size + 1 := by
    rw [Heap.size_update, size_push']
  have hoL : (((s.heap.push (seqObj "list" #[] 0)).update s.heap.objs.size (Obj.mapSeq (· ++ vs.toArray))).push (seqObj "list" vs.toArray 0)).get? (s.heap.objs.size + 1) = some (seqObj "list" vs.toArray 0) := by
    rw [← hsz]; exact Heap.get?_push_size _ rfl
  show wpAny _ _ _ _ _ { s with heap := ((s.heap.push (seqObj "list" #[] 0)).update s.heap.objs.size (Obj.mapSeq (· ++ vs.toArray))).push (seqObj "list" vs.toArray 0) }
  rw [hsz]
  refine wpAny_bind (wpAny_holding (wpAny_call_entry slot_list_sort ⟨_, hoL, rfl⟩ entry_list_sort (list_sort_treeKAny strKind_oneLt hoL hS.keysOf (fun v₁ v₂ rest e => keyKind_strs (by rw [← e]; exact hS)) hL fun st' a1 a2 => ⟨_, rfl, ?_⟩) (args_list_sort _)))
  obtain ⟨ss', b1, b2, b3⟩ := sorted_out_str hS a1 a2
  exact wpAny_pure ⟨_, rfl, h _ ss' b1 b2 b3⟩
end
def rSortedSA (K : PySem.W.Frag) : List V → Hp → VK → Prop := fun vs H Q => ∃ (a : Addr) (xs : List Str), vs = [V.ref a] ∧ (SqT K H a (xs.map V.str) ∨ SqL K H a (xs.map V.str)) ∧ xs.length ≤ 10000 ∧
  ∀ (ys : List Str) (p : Addr), ys.Perm xs → sortedS ys = true → H p = none → Q (.ref p) (upd H p (.lst (ys.map V.str)))
theorem cr_sortedSA {X : Cx} : CallR X (.builtin "sorted") (rSortedSA X.K) := by
  intro pins s σ H vs us Q I r h
  obtain ⟨a, xs, rfl, hs, hl0, q⟩ := h
  rw [Vals.ref1 r]
  have fin : ∀ (its : List Value) (rv : Vals (xs.map V.str) its) (out : Array Value) (ys : List Str), StrsAre out.toList ys → ys.Perm xs → sortedS ys = true → EP X pins σ Q (.ref (s.heap.objs.size + 1)) { s with heap := sortedAll s.heap its out } := fun its rv out ys h1 h2 h3 => by
    obtain ⟨ep, he'⟩ := PyProof.Rows.sortedAll_at s.heap its out
    have hlen : (ys.map V.str).length ≤ sizeLine := by rw [List.length_map, h2.length_eq, sizeLine_eq]; omega
    exact ⟨.ref _, upd H (s.heap.objs.size + 1) (.lst (ys.map V.str)), I.laid (t' := s.toks) (fun _ _ => PyProof.Rows.sortedAll_old) (Nat.le_succ _) ⟨hlen, out.toList, ep, vals_of_strs h1, he'⟩, rfl, q ys _ h2 h3 (I.hok.fresh (Nat.le_succ _))⟩
  have le : ∀ its : List Value, Vals (xs.map V.str) its → its.length ≤ sizeLine := fun its rv => by rw [← rv.length, List.length_map, sizeLine_eq]; omega
  rcases hs with hs | hs
  · obtain ⟨its, rv, pl, hz⟩ := I.tuple hs
    exact sorted_tupS pl rv.strs (le its rv) fun out ys h1 h2 h3 => fin its rv out ys h1 h2 h3
  · obtain ⟨its, rv, pl, hz⟩ := I.list hs
    exact PyProof.Rows.sorted_strsAny pl.isList rv.strs (le its rv) fun out ys h1 h2 h3 => fin its rv out ys h1 h2 h3
def sortTA : Env → A → Rs A := fun env a => match a.tup? with
  | some xs => (match strsD xs with
    | some ss => if ss.length ≤ 10000 then .ok (.own (.l ((srtS ss).map .str))) env else .bad
    | none => .bad)
  | none => match (a.lst? env).bind strsD with
    | some ss => if ss.length ≤ 10000 then .ok (.own (.l ((srtS ss).map .str))) env else .bad
    | none => .bad
theorem so1_sortT {K : KW} {B : Bs} {W : WX} : SO1 K B W (fun v => rSortedSA K [v]) sortTA := by
  intro σ env ts te H Q v a R p
  obtain ⟨F, O, R⟩ := R
  unfold sortTA at p
  cases e : a.tup? with
  | some xs =>
    simp only [e] at p
    cases e2 : strsD xs with
    | none => simp only [e2] at p; exact False.elim p
    | some ss =>
      simp only [e2] at p
      split at p
      · rename_i hz
        obtain ⟨q1, vs, rfl, t1, _, d1⟩ := cell_tup R R.tm.1 e
        have ev := strsD_dn d1 e2
        subst ev
        refine ⟨q1, ss, rfl, .inl t1, hz, fun ys l pm st nl => ?_⟩
        have ey := srtS_of pm st
        subst ey
        exact p _ _ (R.pop.pushL nl (DnAll.ofStrs fun s hs => strs_len d1 e2 s ((srtS_perm ss).mem_iff.mp hs)))
      · exact False.elim p
  | none =>
    simp only [e] at p
    cases e3 : a.lst? env with
    | none => simp only [e3, Option.bind_none] at p; exact False.elim p
    | some xs =>
      cases e2 : strsD xs with
      | none => simp only [e3, Option.bind_some, e2] at p; exact False.elim p
      | some ss =>
        simp only [e3, Option.bind_some, e2] at p
        split at p
        · rename_i hz
          obtain ⟨q1, vs, rfl, t1, d1⟩ := cell_lst R R.tm.1 e3
          have ev := strsD_dn d1 e2
          subst ev
          refine ⟨q1, ss, rfl, .inr t1, hz, fun ys l pm st nl => ?_⟩
          have ey := srtS_of pm st
          subst ey
          exact p _ _ (R.pop.pushL nl (DnAll.ofStrs fun s hs => strs_len d1 e2 s ((srtS_perm ss).mem_iff.mp hs)))
        · exact False.elim p
end Tw

namespace Tw
open PySem PySem.Spec PyProof.Rows L2
/-! ### sets of texts -/
/-- what tells of a thing that has no fields is no code object -/
theorem ext_code {φ : Heap → Prop} (h : ∀ hp, φ hp → ∃ a o, hp.get? a = some o ∧ ∀ vs, o.data ≠ .fields vs) (c : Addr) (q : Str) : HO.ext φ ≠ LamX.CodeO c q := fun z => by
  unfold LamX.CodeO at z
  injection z with z
  let ob : Obj := { cls := .none, data := .fields #[.none, .str q 0] }
  let hp : Heap := { objs := Array.replicate (c + 1) ob }
  have g : ∀ a o, hp.get? a = some o → o = ob := fun a o e => by
    unfold Heap.get? at e
    by_cases l : a < c + 1
    · have e2 : hp.objs[a]? = some ob := by simp [hp, l]
      rw [e2] at e
      exact (Option.some.inj e).symm
    · have e2 : hp.objs[a]? = none := Array.getElem?_eq_none (by show (Array.replicate (c + 1) ob).size ≤ a; rw [Array.size_replicate]; exact Nat.not_lt.mp l)
      rw [e2] at e
      cases e
  have gc : hp.get? c = some ob := by
    unfold Heap.get?
    have e2 : hp.objs[c]? = some ob := by simp [hp]
    rw [e2]
  have p : φ hp := by
    rw [z]
    exact ⟨ob, _, _, gc, rfl, rfl⟩
  obtain ⟨a, o, e, n⟩ := h hp p
  rw [g a o e] at n
  exact n _ rfl
theorem mutO_ext (φ : Heap → Prop) (h : ∀ hp, φ hp → ∃ a o, hp.get? a = some o ∧ ∀ vs, o.data ≠ .fields vs) : MutO (some (.ext φ)) :=
  ⟨nofun, fun _ z => (nomatch z), (fun _ _ z => nomatch z), (fun _ z => nomatch z), (fun _ z => nomatch z), fun c q z => ext_code h c q (Option.some.inj z)⟩
theorem mutO_dicN (P : Program) (w : World) (a : Addr) (us : List (Leaf × V)) : MutO (some (DicN P w a us)) := mutO_ext _ fun hp ⟨_, _, _, _, o, es, ep, e, r⟩ => ⟨a, o, e, fun vs z => by
  have d := r.2.1
  rw [z] at d
  cases d⟩
section
variable {K : KW} {B : Bs} {W : WX}
end
end Tw

namespace Tw
open PySem PySem.Spec PyProof.Rows L2
/-! ### dicts with None, truths, ints and texts as keys -/
def lfV : V → Option Leaf
  | .non => some .none
  | .bl b => some (.num (if b = true then 1 else 0))
  | .int i => some (.num i)
  | .str x => some (.text x)
  | _ => none
def lfD : Dt → Option Leaf
  | .none => some .none
  | .bool b => some (.num (if b = true then 1 else 0))
  | .int i => some (.num i)
  | .str x => some (.text x)
  | _ => none
theorem lf_of {K : KW} {F : Hp} {v : V} {x : Dt} {k : Leaf} (d : Dn K F v x) (h : lfD x = some k) : lfV v = some k := by
  cases d <;> first | exact h | cases h
theorem lf_is {P : Program} {w : World} {v : V} {k : Leaf} {u : Value} (h : lfV v = some k) (r : RelV v u) : (leafKind P w).is k u = true := by
  cases v with
  | non => cases h; rw [show u = Value.none from r]; rfl
  | bl b => cases h; rw [show u = Value.bool b from r]; cases b <;> rfl
  | int i => cases h; obtain ⟨t, rfl⟩ := r; exact decide_eq_true rfl
  | str x => cases h; obtain ⟨t, rfl⟩ := r; show (x == x) = true; simp
  | byt _ => cases h
  | flt _ => cases h
  | ref _ => cases h
  | ty _ => cases h
section
variable {X : Cx} {pins : List (Addr × Obj)} {σ : L2.St} {H : Hp} {s : Shared} {a : Addr} {y v : V} {u r : Value} {A : Around} {E : Value → Shared → Prop} {us : List (Leaf × V)} {k : Leaf}
theorem dic_get {P : Program} {w : World} {h : Heap} (x : ObjOk P w H h a (DicN P w a us)) : us.length ≤ sizeLine ∧ (a == sysModules) = false ∧ ∃ vs, KV us vs ∧ h.DictOf (leafKind P w) a vs := x.1
theorem dic_new {P : Program} {w : World} {h : Heap} {vs : List (Leaf × Value)} (z : us.length ≤ sizeLine) (hd : (a == sysModules) = false) (rel : KV us vs) (dd : h.DictOf (leafKind P w) a vs) : ObjOk P w H h a (DicN P w a us) := by
  have he : ∃ o, h.get? a = some o := let ⟨q, _, _, hq, _⟩ := dd; ⟨q, hq⟩
  refine ⟨⟨z, hd, vs, rel, dd⟩, he, fun h1 h2 ⟨z, hd, vs, rel, ob, es, ep, e, c⟩ kp => ⟨z, hd, vs, rel, ob, es, ep, kp _ e, c⟩⟩
theorem n_getItem {Q : Value → Shared → Prop} (I : Inv X pins σ H s) (e : H a = some (DicN X.prog X.w a us)) (ek : lfV y = some k) (l : valV us k = some v) (ry : RelV y u) (h : ∀ w' s', Inv X pins σ H s' → RelV v w' → Q w' s') :
    wpAny (model X.prog X.w) A (getItem (.ref a) u) Q E s := by
  obtain ⟨z, hd, vs, rel, dd⟩ := dic_get (I.hok a _ e)
  obtain ⟨w', hw, rw'⟩ := RelO.some_of (v := v) (o := valueAt vs k) (by rw [← l]; exact rel.val k)
  exact wpAny_getItem_of (lf_is ek ry) dd.mapOf hw (h w' _ (I.tok _) rw')
theorem n_setItem {Q : Unit → Shared → Prop} (I : Inv X pins σ H s) (e : H a = some (DicN X.prog X.w a us)) (ek : lfV y = some k) (l : us.length < sizeLine) (ry : RelV y u) (rv : RelV v r) (h : ∀ s', Inv X pins σ (upd H a (DicN X.prog X.w a (putK us k v))) s' → Q () s') :
    wpAny (model X.prog X.w) A (setItem (.ref a) u r) Q E s := by
  obtain ⟨z, hd, vs, rel, dd⟩ := dic_get (I.hok a _ e)
  have hz : vs.length ≤ sizeLine := by rw [← rel.length]; exact z
  have hl : (putK us k v).length ≤ sizeLine := by have := length_putK us k v; omega
  refine wpAny_setItem_pairs (hsz := hz) (lf_is ek ry) dd fun h' dd' hs => h _ ?_
  have he : ∃ q, h'.get? a = some q := let ⟨q, _, _, hq, _⟩ := dd'; ⟨q, hq⟩
  exact d_write I (by rw [e]; exact True.intro) hs he (dic_new hl hd (rel.put k rv) dd')
end
/-! readings -/
def tLNew (P : Program) (w : World) : TE := fun _ H Q => ∀ p, H p = none → Q (.ref p) (upd H p (DicN P w p []))
def tLGet (P : Program) (w : World) (td ty : TE) : TE := fun σ H Q => td σ H fun x H1 => ty σ H1 fun y H2 => ∃ a us k v, x = .ref a ∧ H2 a = some (DicN P w a us) ∧ lfV y = some k ∧ valV us k = some v ∧ Q v H2
def sLPut (P : Program) (w : World) (td ty tv : TE) : TS := fun D σ H => tv σ H fun v H1 => td σ H1 fun x H2 => ty σ H2 fun y H3 => ∃ a us k, x = .ref a ∧ H3 a = some (DicN P w a us) ∧ lfV y = some k ∧ us.length < sizeLine ∧ D.nx σ (upd H3 a (DicN P w a (putK us k v)))
section
variable {X : Cx} {o i e value : Expr} {pos pos' : Pos} {td ty tv : TE}
theorem pe_lnew : PE X (.Dict [] [] pos) (tLNew X.prog X.w) := ⟨fun pins s σ H Q I h =>
  wpAny_Dict_empty ⟨.ref s.heap.objs.size, _, I.laid (a := s.heap.objs.size) (o := DicN X.prog X.w s.heap.objs.size []) (t' := s.toks) (fun _ _ q => Heap.get?_push_of_some _ q) (Nat.le_refl _)
    (dic_new (Nat.zero_le _) (beq_eq_false_iff_ne.mpr (Ne.symm (Nat.ne_of_lt I.big))) .nil (Heap.DictOf.new s.heap)), rfl, h _ (I.hok.fresh (Nat.le_refl _))⟩⟩
theorem pe_lget (ho : PE X o td) (hi : PE X i ty) (hs : NoSl i) : PE X (.Subscript o i pos) (tLGet X.prog X.w td ty) := by
  refine ⟨fun pins s σ H Q I h => ?_⟩
  refine subD_of PySem.F.slot_dict_getitem.lookup hs (thn (ho.run pins s σ H _ I h) fun u s1 ⟨x, H1, I1, rx, q1⟩ => thn (hi.run pins s1 σ H1 _ I1 q1) fun iv s2 ⟨y, H2, I2, ry, a, us, k, v, ex, g, ek, l, q2⟩ => ?_)
  subst ex
  obtain rfl : u = Value.ref a := rx
  obtain ⟨_, _, _, _, dd⟩ := dic_get (I2.hok a _ g)
  exact ⟨dd.typeIs, n_getItem I2 g ek l ry fun w' s3 I3 rw' => ⟨v, H2, I3, rw', q2⟩⟩
theorem ps_lput (ho : PE X o td) (hi : PE X i ty) (hv : PE X value tv) (hs : swapsWith value (some (.Subscript o i pos')) pos.line X.env = pure false) :
    PS X (.Assign [.Subscript o i pos'] value pos) (sLPut X.prog X.w td ty tv) := by
  refine ⟨fun pins s σ H D I h => ?_⟩
  refine wpAny_Assign_Subscript (thn (hv.run pins s σ H _ I h) fun r s1 ⟨v, H1, I1, rv, q1⟩ => thn (ho.run pins s1 σ H1 _ I1 q1) fun u s2 ⟨x, H2, I2, rx, q2⟩ => thn (hi.run pins s2 σ H2 _ I2 q2) fun iv s3 ⟨y, H3, I3, ry, a, us, k, ex, g, ek, l, q3⟩ => ?_) hs
  subst ex
  obtain rfl : u = Value.ref a := rx
  exact n_setItem I3 g ek l ry rv fun s4 I4 => ⟨σ, _, I4, q3⟩
end
/-! mirrors -/
def mDnN : ME := fun env _ => .ok (.own (.x (.dn []))) env
def dnAt (env : Env) : A → Option (Nat × List (Leaf × Dt))
  | .rf i none => match owAt env i with
    | some (.x (.dn kvs)) => some (i, kvs)
    | _ => none
  | _ => none
def lkN (kvs : List (Leaf × Dt)) (k : Leaf) : Option Dt := (kvs.find? fun q => decide (q.1 = k)).map (·.2)
def putN (kvs : List (Leaf × Dt)) (k : Leaf) (v : Dt) : List (Leaf × Dt) := if (kvs.any fun q => decide (q.1 = k)) = true then kvs.map fun q => if q.1 = k then (q.1, v) else q else kvs ++ [(k, v)]
def dnGetA : Env → A → A → Rs A := fun env a b => match dnAt env a, (b.val env).bind lfD with
  | some q, some k => (match lkN q.2 k with
    | some x => .ok (.d x) env
    | none => .bad)
  | _, _ => .bad
def putNA (env : Env) (a b c : A) : Option Env := match dnAt env a, (b.val env).bind lfD, c with
  | some (i, kvs), some k, .d x => (match env[i]? with
    | some (some ca) => if kvs.length < sizeLine then some (env.set i (some (reOw ca (.x (.dn (putN kvs k x)))))) else none
    | _ => none)
  | _, _, _ => none
def mPutN (mv md mk : ME) : MS := fun env te => (mv env te).fl fun c e => (md e (c :: te)).fl fun a e1 => (mk e1 (a :: c :: te)).fl fun b e2 => match putNA e2 a b c with
  | some e3 => .nx e3
  | none => .bad
section
variable {K : KW} {B : Bs} {W : WX}
theorem pairN_val {F : Hp} : ∀ {us : List (Leaf × V)} {kvs : List (Leaf × Dt)} (p : Paired (fun (p : Leaf × V) (q : Leaf × Dt) => p.1 = q.1 ∧ Dn K F p.2 q.2) us kvs) (k : Leaf), (∀ x, lkN kvs k = some x → ∃ v, valV us k = some v ∧ Dn K F v x) ∧ (lkN kvs k = none → valV us k = none)
  | _, _, .nil, _ => ⟨(fun x h => nomatch h), fun _ => rfl⟩
  | p :: us, q :: kvs, .cons h r, k => by
    have ih := pairN_val r k
    unfold lkN valV
    rw [List.find?_cons, List.find?_cons, h.1]
    by_cases c : q.1 = k
    · rw [decide_eq_true c]
      exact ⟨fun x z => ⟨p.2, rfl, by cases z; exact h.2⟩, fun z => nomatch z⟩
    · rw [decide_eq_false c]
      exact ih
theorem pairN_any {F : Hp} : ∀ {us : List (Leaf × V)} {kvs : List (Leaf × Dt)} (p : Paired (fun (p : Leaf × V) (q : Leaf × Dt) => p.1 = q.1 ∧ Dn K F p.2 q.2) us kvs) (k : Leaf), (us.any fun q => decide (q.1 = k)) = (kvs.any fun q => decide (q.1 = k))
  | _, _, .nil, _ => rfl
  | p :: us, q :: kvs, .cons h r, k => by
    rw [List.any_cons, List.any_cons, h.1, pairN_any r k]
theorem pairN_map {F : Hp} {k : Leaf} {v : V} {x : Dt} (d : Dn K F v x) : ∀ {us : List (Leaf × V)} {kvs : List (Leaf × Dt)} (p : Paired (fun (p : Leaf × V) (q : Leaf × Dt) => p.1 = q.1 ∧ Dn K F p.2 q.2) us kvs), Paired (fun (p : Leaf × V) (q : Leaf × Dt) => p.1 = q.1 ∧ Dn K F p.2 q.2) (us.map fun q => if q.1 = k then (q.1, v) else q) (kvs.map fun q => if q.1 = k then (q.1, x) else q)
  | _, _, .nil => .nil
  | p :: us, q :: kvs, .cons h r => by
    refine .cons ?_ (pairN_map d r)
    dsimp only
    rw [h.1]
    by_cases c : q.1 = k
    · rw [if_pos c, if_pos c]; exact ⟨rfl, d⟩
    · rw [if_neg c, if_neg c]; exact h
theorem pairN_app {F : Hp} {k : Leaf} {v : V} {x : Dt} (d : Dn K F v x) : ∀ {us : List (Leaf × V)} {kvs : List (Leaf × Dt)} (p : Paired (fun (p : Leaf × V) (q : Leaf × Dt) => p.1 = q.1 ∧ Dn K F p.2 q.2) us kvs), Paired (fun (p : Leaf × V) (q : Leaf × Dt) => p.1 = q.1 ∧ Dn K F p.2 q.2) (us ++ [(k, v)]) (kvs ++ [(k, x)])
  | _, _, .nil => .cons ⟨rfl, d⟩ .nil
  | p :: us, q :: kvs, .cons h r => .cons h (pairN_app d r)
theorem pairN_put {F : Hp} {k : Leaf} {v : V} {x : Dt} (d : Dn K F v x) {us : List (Leaf × V)} {kvs : List (Leaf × Dt)} (p : Paired (fun (p : Leaf × V) (q : Leaf × Dt) => p.1 = q.1 ∧ Dn K F p.2 q.2) us kvs) : Paired (fun (p : Leaf × V) (q : Leaf × Dt) => p.1 = q.1 ∧ Dn K F p.2 q.2) (putK us k v) (putN kvs k x) := by
  unfold putK putN
  rw [pairN_any p k]
  split
  · exact pairN_map d p
  · exact pairN_app d p
theorem pairN_len {F : Hp} : ∀ {us : List (Leaf × V)} {kvs : List (Leaf × Dt)} (p : Paired (fun (p : Leaf × V) (q : Leaf × Dt) => p.1 = q.1 ∧ Dn K F p.2 q.2) us kvs), us.length = kvs.length
  | _, _, .nil => rfl
  | _, _, .cons _ r => congrArg (· + 1) (pairN_len r)
theorem se_dnN : SE K B W (tLNew K.P K.w) mDnN := by
  rintro σ env ts te H Q ⟨F, O, R⟩ p
  exact fun q hq => p _ _ ⟨F, _, R.newL hq (mutO_dicN _ _ _ _) (w := .x (.dn [])) fun own ho => ⟨q, [], rfl, ho, upd_same, .nil⟩⟩
theorem dn_cell {F H : Hp} {O : Addr → Option Nat} {σ : L2.St} {env : Env} {ts : List V} {te : List A} (R : RelF K B F O σ env ts te H) {j : Nat} {v : V} {a : A} {i : Nat} {kvs : List (Leaf × Dt)} (c : CellO K B F H O σ j v a) (h : dnAt env a = some (i, kvs)) :
    ∃ q us, v = .ref q ∧ a = .rf i none ∧ σ[i]? = some (some v) ∧ O q = some i ∧ owAt env i = some (.x (.dn kvs)) ∧ H q = some (DicN K.P K.w q us) ∧ Paired (fun (p : Leaf × V) (q : Leaf × Dt) => p.1 = q.1 ∧ Dn K F p.2 q.2) us kvs := by
  unfold dnAt at h
  split at h
  · rename_i i'
    split at h
    · rename_i ys eo
      cases h
      obtain ⟨w, hw, e⟩ := c
      have e : v = w := e
      subst e
      obtain ⟨q, us, e1, o1, h1, p1⟩ := R.owAt eo hw
      exact ⟨q, us, e1, rfl, hw, o1, eo, h1, p1⟩
    · cases h
  · cases h
theorem se_dnGet {ta tb : TE} {ma mb : ME} (ha : SE K B W ta ma) (hb : SE K B W tb mb) : SE K B W (tLGet K.P K.w ta tb) (mOp dnGetA ma mb) := by
  intro σ env ts te H Q R p
  refine ha.thE R p fun a e p v H1 R1 => ?_
  refine hb σ e (v :: ts) (a :: te) H1 _ R1 ?_
  cases q : mb e (a :: te) with
  | ex x e2 => rw [q] at p; exact XPost.push p v a
  | bad => rw [q] at p; exact p
  | ok b e2 =>
    rw [q] at p
    rintro u H2 ⟨F2, O2, R2⟩
    simp only [Rs.bind_ok] at p
    unfold dnGetA at p
    cases eg : dnAt e2 a with
    | none => simp only [eg] at p; exact False.elim p
    | some g =>
      obtain ⟨i, kvs⟩ := g
      cases eb : b.val e2 with
      | none => simp only [eg, eb, Option.bind_none] at p; exact False.elim p
      | some y =>
        cases ek : lfD y with
        | none => simp only [eg, eb, Option.bind_some, ek] at p; exact False.elim p
        | some k =>
          simp only [eg, eb, Option.bind_some, ek] at p
          have eu := lf_of (cell_val R2 R2.tm.1 eb) ek
          obtain ⟨qa, us, e1, _, _, _, _, hq, pr⟩ := dn_cell R2 R2.tm.2.1 eg
          cases el : lkN kvs k with
          | none => simp only [el] at p; exact False.elim p
          | some x =>
            simp only [el] at p
            obtain ⟨w, hw, dw⟩ := (pairN_val pr k).1 x el
            exact ⟨qa, us, k, w, e1, hq, eu, hw, p _ H2 (R2.pop.pop.pushD dw)⟩
theorem ss_putN {td tk tv : TE} {md mk mv : ME} (hd : SE K B W td md) (hk : SE K B W tk mk) (hv : SE K B W tv mv) : SS K B W (sLPut K.P K.w td tk tv) (mPutN mv md mk) := by
  intro σ env ts te H D R p
  refine hv.thS R p fun c e p v H1 R1 => ?_
  refine hd.thS1 R1 p fun a e1 p u H2 R2 => ?_
  refine hk.thS2 R2 p fun b e2 p w H3 R3 => ?_
  obtain ⟨F, O, R3⟩ := R3
  cases q : putNA e2 a b c with
  | none => simp only [q] at p; exact False.elim p
  | some e' =>
    simp only [q] at p
    have p9 : ∀ σ H, Rel K B σ e' ts te H → D.nx σ H := p
    unfold putNA at q
    cases eg : dnAt e2 a with
    | none => simp only [eg] at q; cases q
    | some g =>
      obtain ⟨i, kvs⟩ := g
      cases eb : b.val e2 with
      | none => simp only [eg, eb, Option.bind_none] at q; cases q
      | some y =>
        cases ek : lfD y with
        | none => simp only [eg, eb, Option.bind_some, ek] at q; cases q
        | some k =>
          cases c with
          | d x =>
            simp only [eg, eb, Option.bind_some, ek] at q
            cases ea : e2[i]? with
            | none => rw [ea] at q; cases q
            | some oa =>
              cases oa with
              | none => rw [ea] at q; cases q
              | some ca =>
                rw [ea] at q
                simp only at q
                split at q
                · rename_i hl
                  cases q
                  have eu := lf_of (cell_val R3 R3.tm.1 eb) ek
                  obtain ⟨pa, us, ep, ea2, hw, op, eo, hp, pr⟩ := dn_cell R3 R3.tm.2.1 eg
                  have dx : Dn K F v x := R3.tm.2.2.1
                  refine ⟨pa, us, k, ep, hp, eu, by rw [pairN_len pr]; exact hl, p9 σ _ ?_⟩
                  have il := (List.getElem?_eq_some_iff.mp hw).1
                  have s1 : ∀ n, i ≠ σ.length + n := fun n => by omega
                  have op2 : (if (if O pa = some (σ.length + (u :: v :: ts).length) then none else O pa) = some (σ.length + (v :: ts).length) then none else (if O pa = some (σ.length + (u :: v :: ts).length) then none else O pa)) = some i := by
                    rw [op, if_neg (fun z => s1 _ (Option.some.inj z)), if_neg (fun z => s1 _ (Option.some.inj z))]
                  exact rel_give (o' := .x (.dn (putN kvs k x))) (p := pa) (ob := DicN K.P K.w pa (putK us k v)) R3.pop.pop hw ea eo op2 (mutO_dicN _ _ _ _)
                    (fun own' ho' => ⟨pa, _, ep, ho' pa (.inl op2), upd_same, pairN_put dx pr⟩)
                    (fun O' hO' k' w' _ hat => by
                      obtain ⟨a', ea', oa', hh⟩ := hat
                      rw [ep] at ea'
                      cases ea'
                      rw [hp] at hh
                      rcases hh with ⟨_, _, _, _, z, _⟩ | ⟨_, z, _⟩ <;> cases z)
                · cases q
          | _ => simp only [eg, eb, Option.bind_some, ek] at q; cases q
end
end Tw

namespace Tw
open PySem PySem.Spec PyProof.Rows L2
section
variable {K : KW} {B : Bs} {F F' H H' : Hp} {O : Addr → Option Nat} {σ : List (Option V)} {env : Env} {ts : List V} {te : List A}
end
/-! ### for a, b in e.items(), e a dict just made -/
def isLk : A → Bool
  | .lk _ => true
  | _ => false
section
variable {K : KW} {B : Bs} {W : WX} {F H : Hp} {O : Addr → Option Nat} {σ : List (Option V)} {env : Env} {ts : List V} {te : List A}
end
end Tw

namespace Tw
open PySem PySem.Spec PyProof.Rows L2
/-! ### a dict of lists with None among its keys: x = d.setdefault(k, []), and what then is done with x; d.get(k, y) of a dict with None among its keys -/
section
variable {X : Cx} {pins : List (Addr × Obj)} {σ : L2.St} {H : Hp} {s : Shared} {a : Addr} {y v d : V} {u r : Value} {A : Around} {E : Value → Shared → Prop} {us : List (Leaf × V)} {k : Leaf}
theorem n_setd {Q : Value → Shared → Prop} (I : Inv X pins σ H s) (e : H a = some (DicN X.prog X.w a us)) (ek : lfV y = some k) (ry : RelV y u) (rd : RelV d r) (hl : us.length < sizeLine)
    (h1 : ∀ v, valV us k = some v → ∀ (w' : Value) (s' : Shared), Inv X pins σ H s' → RelV v w' → Q w' s') (h2 : valV us k = none → ∀ (w' : Value) (s' : Shared), Inv X pins σ (upd H a (DicN X.prog X.w a (putK us k d))) s' → RelV d w' → Q w' s') :
    wpAny (model X.prog X.w) A (call (.builtin "dict.setdefault") [.ref a, u, r]) Q E s := by
  obtain ⟨z, hd, vs, rel, dd⟩ := dic_get (I.hok a _ e)
  have hz : vs.length ≤ sizeLine := by rw [← rel.length]; exact z
  refine call_meetsIn PySem.F.slot_dict_setdefault dd.typeIs PySem.F.entry_dict_setdefault (PySem.F.args_dict_setdefault_3 _ _ _) (kt_meets_setdefault (leafKind X.prog X.w) a (lf_is ek ry) hd r) ⟨vs, dd, hz, fun v hv => ?_, fun hn h' dd' hs => ?_⟩
  · have q := rel.val k
    rw [hv] at q
    cases q0 : valV us k with
    | none => rw [q0] at q; exact (show False from q).elim
    | some v0 => rw [q0] at q; exact h1 v0 q0 _ _ (I.tok _) q
  · have q := rel.val k
    rw [hn] at q
    cases q0 : valV us k with
    | some v0 => rw [q0] at q; exact (show False from q).elim
    | none =>
      have hl2 : (putK us k d).length ≤ sizeLine := by have := length_putK us k d; omega
      have he : ∃ q, h'.get? a = some q := let ⟨q, _, _, hq, _⟩ := dd'; ⟨q, hq⟩
      exact h2 q0 _ _ (d_write (t' := s.toks + 1) I (by rw [e]; exact True.intro) hs he (dic_new hl2 hd (rel.put k rd) dd')) rd
theorem n_get2 {Q : Value → Shared → Prop} (I : Inv X pins σ H s) (e : H a = some (DicN X.prog X.w a us)) (ek : lfV y = some k) (ry : RelV y u) (rd : RelV d r) (h : ∀ (w' : Value) (s' : Shared), Inv X pins σ H s' → RelV ((valV us k).getD d) w' → Q w' s') :
    wpAny (model X.prog X.w) A (call (.builtin "dict.get") [.ref a, u, r]) Q E s := by
  obtain ⟨z, hd, vs, rel, dd⟩ := dic_get (I.hok a _ e)
  refine call_meetsIn PySem.F.slot_dict_get dd.typeIs PySem.F.entry_dict_get (PySem.F.args_dict_get_3 _ _ _) (meets_dict_get_default (leafKind X.prog X.w) a (lf_is ek ry) hd r) ⟨_, dd.mapOf, h _ _ (I.tok _) ?_⟩
  have q := rel.val k
  cases q0 : valV us k with
  | none =>
    rw [q0] at q
    cases q1 : valueAt vs k with
    | none => exact rd
    | some _ => rw [q1] at q; exact (show False from q).elim
  | some v0 =>
    rw [q0] at q
    cases q1 : valueAt vs k with
    | none => rw [q1] at q; exact (show False from q).elim
    | some _ => rw [q1] at q; exact q
end
/-! readings -/
def tLSetd (P : Program) (w : World) (td ty tx : TE) : TE := fun σ H Q => td σ H fun x H1 => ∃ a us0, x = .ref a ∧ H1 a = some (DicN P w a us0) ∧ ty σ H1 fun y H2 => tx σ H2 fun z H3 => ∃ us k, H3 a = some (DicN P w a us) ∧ lfV y = some k ∧ us.length < sizeLine ∧
  (∀ v, valV us k = some v → Q v H3) ∧ (valV us k = none → Q z (upd H3 a (DicN P w a (putK us k z))))
def tLGet2 (P : Program) (w : World) (td ty tx : TE) : TE := fun σ H Q => td σ H fun x H1 => ∃ a us0, x = .ref a ∧ H1 a = some (DicN P w a us0) ∧ ty σ H1 fun y H2 => tx σ H2 fun z H3 => ∃ us k, H3 a = some (DicN P w a us) ∧ lfV y = some k ∧ Q ((valV us k).getD z) H3
section
variable {X : Cx} {o e f : Expr} {td ty tx : TE} {apos cpos : Pos}
theorem dic_is {pins : List (Addr × Obj)} {σ : L2.St} {H : Hp} {s : Shared} {a : Addr} {us : List (Leaf × V)} (I : Inv X pins σ H s) (e : H a = some (DicN X.prog X.w a us)) : s.TypeIs (.ref a) "dict" ∧ (∀ b, Value.ref a = .ref b → ∃ ob, s.heap.get? b = some ob ∧ ob.dict = none) := by
  obtain ⟨_, hd, vs, _, dd⟩ := dic_get (I.hok a _ e)
  exact ⟨dd.typeIs, dd.mapOf.noDict⟩
theorem pe_lsetd (ho : PE X o td) (he : PE X e ty) (hf : PE X f tx) (m : M2 X o "setdefault" apos e f cpos) : PE X (.Call (.Attribute o "setdefault" apos) [e, f] [] cpos) (tLSetd X.prog X.w td ty tx) := by
  refine ⟨fun pins s σ H Q I h => ?_⟩
  refine wpAny_Call_method m.base m.few m.line PySem.F.plainAttrs_dict PySem.F.slot_dict_setdefault PySem.F.type_dict_setdefault (thn (ho.run pins s σ H _ I h) fun u s1 ⟨x, H1, I1, rx, a, us0, ex, d, q1⟩ => ?_)
  subst ex
  obtain rfl : u = Value.ref a := rx
  obtain ⟨t1, t2⟩ := dic_is I1 d
  refine ⟨t1, t2, ?_⟩
  rw [m.trees]
  refine Calls.callWith_builtin rfl (Calls.evalArgs_plain (Calls.spliced_cons (thn (he.run pins s1 σ H1 _ I1 q1) fun iv s2 ⟨y, H2, I2, ry, q2⟩ =>
    Calls.spliced_cons (thn (hf.run pins s2 σ H2 _ I2 q2) fun fv s3 ⟨z, H3, I3, rz, us, k, ea, ey, hl, q3, q4⟩ => Calls.spliced_nil ?_))))
  exact n_setd I3 ea ey ry rz hl (fun v hv w' s4 I4 rw' => ⟨v, _, I4, rw', q3 v hv⟩) fun hn w' s4 I4 rw' => ⟨z, _, I4, rw', q4 hn⟩
theorem pe_lget2 (ho : PE X o td) (he : PE X e ty) (hf : PE X f tx) (m : M2 X o "get" apos e f cpos) : PE X (.Call (.Attribute o "get" apos) [e, f] [] cpos) (tLGet2 X.prog X.w td ty tx) := by
  refine ⟨fun pins s σ H Q I h => ?_⟩
  refine wpAny_Call_method m.base m.few m.line PySem.F.plainAttrs_dict PySem.F.slot_dict_get PySem.F.type_dict_get (thn (ho.run pins s σ H _ I h) fun u s1 ⟨x, H1, I1, rx, a, us0, ex, d, q1⟩ => ?_)
  subst ex
  obtain rfl : u = Value.ref a := rx
  obtain ⟨t1, t2⟩ := dic_is I1 d
  refine ⟨t1, t2, ?_⟩
  rw [m.trees]
  refine Calls.callWith_builtin rfl (Calls.evalArgs_plain (Calls.spliced_cons (thn (he.run pins s1 σ H1 _ I1 q1) fun iv s2 ⟨y, H2, I2, ry, q2⟩ =>
    Calls.spliced_cons (thn (hf.run pins s2 σ H2 _ I2 q2) fun fv s3 ⟨z, H3, I3, rz, us, k, ea, ey, q3⟩ => Calls.spliced_nil ?_))))
  exact n_get2 I3 ea ey ry rz fun w' s4 I4 rw' => ⟨_, _, I4, rw', q3⟩
end
/-! mirrors -/
def dnGet2A (e : Env) (a b c : A) : Rs A := match dnAt e a, (b.val e).bind lfD, c with
  | some q, some k, .d x => .ok (.d ((lkN q.2 k).getD x)) e
  | _, _, _ => .bad
def mDnGet2 (md mk mx : ME) : ME := fun env te => (md env te).bind fun a e1 => if (dnAt e1 a).isSome = true then (mk e1 (a :: te)).bind fun b e2 => (mx e2 (b :: a :: te)).bind fun c e3 => dnGet2A e3 a b c else .bad
def dnlAt (env : Env) : A → Option (Nat × List (Leaf × List Dt))
  | .rf i none => match owAt env i with
    | some (.x (.dnl kvs)) => some (i, kvs)
    | _ => none
  | _ => none
def mDnlN : ME := fun env _ => .ok (.own (.x (.dnl []))) env
def lkL (kvs : List (Leaf × List Dt)) (k : Leaf) : Option (List Dt) := (kvs.find? fun q => decide (q.1 = k)).map (·.2)
def setL (kvs : List (Leaf × List Dt)) (k : Leaf) (ys : List Dt) : List (Leaf × List Dt) := kvs.map fun q => if q.1 = k then (q.1, ys) else q
def defL (kvs : List (Leaf × List Dt)) (k : Leaf) : List (Leaf × List Dt) := match lkL kvs k with
  | some _ => kvs
  | none => kvs ++ [(k, [])]
def lendE (e : Env) (i j : Nat) (xs : List Dt) : Env := (e.set i (some (.io (.x .lam)))).set j (some (.io (.l xs)))
/-- what is handed over in e3 was so in e, but for the slots i and j -/
def onlyIo (e e3 : Env) (i j : Nat) : Bool := (List.range e3.length).all fun m => m == i || m == j || (match e3[m]? with
  | some (some (.io _)) => (match e[m]? with
    | some (some (.io _)) => true
    | _ => false)
  | _ => true)
def lendB (e : Env) (te : List A) (i j : Nat) (kvs : List (Leaf × List Dt)) (k : Leaf) (m : MS) : Fl := match lkL kvs k with
  | some xs => (match m (lendE e i j xs) te with
    | .nx e3 => (match e3[i]?, e3[j]? with
      | some (some (.io (.x .lam))), some (some (.io (.l ys))) => if anyC (isRf i) e3 te = false ∧ anyC (isRf j) e3 te = false ∧ onlyIo e e3 i j = true ∧ anyC isLk e3 te = false then .nx ((e3.set i (some (.own (.x (.dnl (setL kvs k ys)))))).set j none) else .bad
      | _, _ => .bad)
    | _ => .bad)
  | none => .bad
def lendA (e2 : Env) (te : List A) (i j : Nat) (a b c : A) (m : MS) : Fl := match dnlAt e2 a, (b.val e2).bind lfD, c, e2[i]?, e2[j]? with
  | some (i', kvs), some k, .own (.l []), some (some (.own _)), some none =>
    if i' = i ∧ kvs.length < sizeLine ∧ anyC (isRf i) e2 te = false ∧ anyC (isRf j) e2 te = false ∧ te.any isIo = false then lendB (e2.set i (some (.own (.x (.dnl (defL kvs k)))))) te i j (defL kvs k) k m else .bad
  | _, _, _, _, _ => .bad
/-- x = d.setdefault(k, []) and the rest of the block, in which the slot j has the list as if it had been handed over -/
def mLend (i j : Nat) (mk mx : ME) (m : MS) : MS := fun env te => (mVar i env te).fl fun a e => if (dnlAt e a).isSome = true then (mk e (a :: te)).fl fun b e1 => (mx e1 (b :: a :: te)).fl fun c e2 => lendA e2 te i j a b c m else .bad
section
variable {K : KW} {B B' : Bs} {W : WX} {F H : Hp} {O O' : Addr → Option Nat} {σ σ' : List (Option V)} {env : Env} {ts : List V} {te : List A}
theorem se_dnlN : SE K B W (tLNew K.P K.w) mDnlN := by
  rintro σ env ts te H Q ⟨F, O, R⟩ p
  exact fun q hq => p _ _ ⟨F, _, R.newL hq (mutO_dicN _ _ _ _) (w := .x (.dnl [])) fun own ho => ⟨q, [], rfl, ho, upd_same, ⟨List.nodup_nil, List.nodup_nil⟩, (by simp), .nil⟩⟩
theorem se_dnGet2 {td tk tx : TE} {md mk mx : ME} (hd : SE K B W td md) (hk : SE K B W tk mk) (hx : SE K B W tx mx) : SE K B W (tLGet2 K.P K.w td tk tx) (mDnGet2 md mk mx) := by
  intro σ env ts te H Q R p
  refine hd.thE R p fun a e p v H1 R1 => ?_
  split at p
  case isFalse => exact False.elim p
  rename_i hi
  obtain ⟨g, eg⟩ := Option.isSome_iff_exists.mp hi
  have ⟨pa0, us0, e0, rd0⟩ : ∃ p us, v = .ref p ∧ H1 p = some (DicN K.P K.w p us) := by
    obtain ⟨F, O, R1⟩ := R1
    obtain ⟨i, kvs⟩ := g
    obtain ⟨q, us, e1, _, _, _, _, hq, _⟩ := dn_cell R1 R1.tm.1 eg
    exact ⟨q, us, e1, hq⟩
  refine ⟨pa0, us0, e0, rd0, ?_⟩
  refine hk σ e _ _ H1 _ R1 ?_
  cases q : mk e (a :: te) with
  | ex x e2 => rw [q] at p; exact XPost.push p v a
  | bad => rw [q] at p; exact p
  | ok b e2 =>
    rw [q] at p
    simp only [Rs.bind_ok] at p
    intro u H2 R2
    refine hx σ e2 _ _ H2 _ R2 ?_
    cases q2 : mx e2 (b :: a :: te) with
    | ex x e3 => rw [q2] at p; exact XPost.push (XPost.push p v a) u b
    | bad => rw [q2] at p; exact p
    | ok c e3 =>
      rw [q2] at p
      simp only [Rs.bind_ok] at p
      rintro w H3 ⟨F, O, R3⟩
      unfold dnGet2A at p
      cases eg2 : dnAt e3 a with
      | none => simp only [eg2] at p; exact False.elim p
      | some g2 =>
        obtain ⟨i, kvs⟩ := g2
        cases eb : b.val e3 with
        | none => simp only [eg2, eb, Option.bind_none] at p; exact False.elim p
        | some y =>
          cases ek : lfD y with
          | none => simp only [eg2, eb, Option.bind_some, ek] at p; exact False.elim p
          | some k =>
            simp only [eg2, eb, Option.bind_some, ek] at p
            have eu := lf_of (cell_val R3 R3.tm.2.1 eb) ek
            obtain ⟨qa, us, e1, _, _, _, _, hq, pr⟩ := dn_cell R3 R3.tm.2.2.1 eg2
            have epp : qa = pa0 := by rw [e0] at e1; exact (V.ref.inj e1).symm
            subst epp
            refine ⟨us, k, hq, eu, ?_⟩
            cases c with
            | d x =>
              have dx : Dn K F w x := R3.tm.1
              refine p _ H3 (R3.pop.pop.pop.pushD ?_)
              cases el : lkN kvs k with
              | none => rw [(pairN_val pr k).2 el]; exact dx
              | some x2 =>
                obtain ⟨w2, hw2, dw2⟩ := (pairN_val pr k).1 x2 el
                rw [hw2]; exact dw2
            | _ => exact False.elim p
/-! a cell under another beginning -/
theorem cell_rebase {m : Nat} {v : V} {c : A} (eF : isLk c = true → Same B.F B'.F) (ex : B'.xc = B.xc) (hown : ∀ a, O a = some m → B.H a = none → O' a = some m ∧ B'.H a = none) (hio : isIo c = true → (∀ a, O a = some m → O' a = some m) ∧ (B.vs[m]? = some v → B'.vs[m]? = some v))
    (hrf : ∀ n p, c = .rf n p → (∀ w, σ[n]? = some (some w) → σ'[n]? = some (some w)) ∧ ∀ b, O b = some n → O' b = some n) (h : CellO K B F H O σ m v c) : CellO K B' F H O' σ' m v c := by
  cases c with
  | d x => exact h
  | own o => exact OwO.mono (own := fun a => O a = some m ∧ B.H a = none) (own' := fun a => O' a = some m ∧ B'.H a = none) (Same.refl F) (fun a z => hown a z.1 z.2) (fun _ _ => rfl) h
  | io o =>
    obtain ⟨h1, h2⟩ := hio rfl
    exact ⟨OwO.mono (own := fun a => O a = some m) (own' := fun a => O' a = some m) (Same.refl F) (fun a z => h1 a z) (fun _ _ => rfl) h.1, h2 h.2⟩
  | rf n p =>
    obtain ⟨w, e, h⟩ := h
    obtain ⟨h1, h2⟩ := hrf n p rfl
    exact ⟨w, h1 w e, h.mono fun _ b q => ⟨h2 b q, rfl⟩⟩
  | sc ns => exact h
  | q xs => exact h
  | lk kvs =>
    obtain ⟨a, o, us, e, q, d⟩ := h
    exact ⟨a, o, us, e, eF rfl _ _ q, d.same (eF rfl)⟩
  | xr x =>
    obtain ⟨e1, e2, h⟩ := h
    exact ⟨by rw [ex]; exact e1, by rw [ex]; exact e2, by rw [ex]; exact h⟩
theorem tm_rebase (ex : B'.xc = B.xc) (hl : σ'.length = σ.length) (hown : ∀ m a, σ.length ≤ m → O a = some m → B.H a = none → O' a = some m ∧ B'.H a = none) : ∀ {ts : List V} {te : List A}, te.any isIo = false → (te.any isLk = true → Same B.F B'.F) →
    (∀ n p, A.rf n p ∈ te → (∀ w, σ[n]? = some (some w) → σ'[n]? = some (some w)) ∧ ∀ b, O b = some n → O' b = some n) → TmO K B F H O σ ts te → TmO K B' F H O' σ' ts te
  | [], [], _, _, _, _ => trivial
  | v :: ts, a :: te, hi, eF, hrf, h => by
    rw [List.any_cons, Bool.or_eq_false_iff] at hi
    refine ⟨?_, tm_rebase ex hl hown hi.2 (fun z => eF (by rw [List.any_cons, z, Bool.or_true])) (fun n p z => hrf n p (List.mem_cons_of_mem _ z)) h.2⟩
    rw [hl]
    exact cell_rebase (fun z => eF (by rw [List.any_cons, z, Bool.true_or])) ex (fun b => hown _ b (Nat.le_add_right _ _)) (fun z => by rw [hi.1] at z; cases z) (fun n p e => hrf n p (by rw [e]; exact List.mem_cons_self)) h.1
end
theorem valL_mem {us : List (Leaf × V)} {k : Leaf} {v : V} (h : valV us k = some v) : v ∈ us.map (·.2) := by
  unfold valV at h
  cases f : us.find? fun kv => decide (kv.1 = k) with
  | none => rw [f] at h; cases h
  | some kv => rw [f] at h; exact List.mem_map.mpr ⟨kv, List.mem_of_find?_eq_some f, Option.some.inj h⟩
theorem keyL_val : ∀ {us : List (Leaf × V)} {k : Leaf} {w : V}, (us.map (·.2)).Nodup → (us.map (·.1)).Nodup → valV us k = some w → ∀ kv ∈ us, (kv.1 = k ↔ kv.2 = w)
  | [], _, _, _, _, h => by cases h
  | p :: r, k, w, n1, n2, h => fun kv hm => by
    have m1 := List.nodup_cons.mp (show (p.2 :: r.map (·.2)).Nodup from n1)
    have m2 := List.nodup_cons.mp (show (p.1 :: r.map (·.1)).Nodup from n2)
    unfold valV at h
    rw [List.find?_cons] at h
    by_cases e : p.1 = k
    · rw [decide_eq_true e] at h
      have h : p.2 = w := Option.some.inj h
      rcases List.mem_cons.mp hm with rfl | hm
      · exact ⟨fun _ => h, fun _ => e⟩
      · exact ⟨fun z => absurd (List.mem_map.mpr ⟨kv, hm, z.trans e.symm⟩) m2.1, fun z => absurd (List.mem_map.mpr ⟨kv, hm, z.trans h.symm⟩) m1.1⟩
    · rw [decide_eq_false e] at h
      have h : valV r k = some w := h
      rcases List.mem_cons.mp hm with rfl | hm
      · exact ⟨fun z => absurd z e, fun z => absurd (by rw [z]; exact valL_mem h) m1.1⟩
      · exact keyL_val m1.2 m2.2 h kv hm
/-- the list that is handed over, and all else that the slot i owns -/
def Bs.lend (B : Bs) (F H : Hp) (O : Addr → Option Nat) (i j : Nat) (vi : V) (q : Addr) : Bs :=
  { B with F := F, H := fun b => if O b = some i then H b else B.H b, S := fun b => if b = q then some j else if O b = some i then none else B.S b, io := fun m => m == j || B.io m,
           vs := (List.range (max B.vs.length (max i j + 1))).map fun m => if m = i then vi else if m = j then .ref q else (B.vs[m]?).getD .non }
theorem lend_vs (B : Bs) (F H : Hp) (O : Addr → Option Nat) (i j : Nat) (vi : V) (q : Addr) : (B.lend F H O i j vi q).vs[i]? = some vi ∧ (i ≠ j → (B.lend F H O i j vi q).vs[j]? = some (.ref q)) ∧ ∀ m v, m ≠ i → m ≠ j → B.vs[m]? = some v → (B.lend F H O i j vi q).vs[m]? = some v := by
  have g : ∀ m, m < max B.vs.length (max i j + 1) → (B.lend F H O i j vi q).vs[m]? = some (if m = i then vi else if m = j then .ref q else (B.vs[m]?).getD .non) := fun m hm => by
    show ((List.range (max B.vs.length (max i j + 1))).map _)[m]? = _
    rw [List.getElem?_map, List.getElem?_range hm]
    rfl
  refine ⟨?_, fun n => ?_, fun m v n1 n2 e => ?_⟩
  · rw [g i (by omega), if_pos rfl]
  · rw [g j (by omega), if_neg (Ne.symm n), if_pos rfl]
  · have l := (List.getElem?_eq_some_iff.mp e).1
    rw [g m (by omega), if_neg n1, if_neg n2, e]
    rfl
section
variable {K : KW} {B : Bs} {W : WX} {F F' H H' : Hp} {O O' : Addr → Option Nat} {σ σ' : List (Option V)} {env e3 : Env} {ts : List V} {te : List A} {i j : Nat} {a q : Addr}
theorem RelF.lend (R : RelF K B F O σ env ts te H) {kvs : List (Leaf × List Dt)} {xs : List Dt} (ei : env[i]? = some (some (.own (.x (.dnl kvs))))) (ej : env[j]? = some none) (ri : anyC (isRf i) env te = false) (rj : anyC (isRf j) env te = false) (ti : te.any isIo = false)
    (hv : σ[i]? = some (some (.ref a))) (hq : OwL K F H (fun b => O b = some i) (.ref q) xs) :
    RelF K (B.lend F H O i j (.ref a) q) F (fun b => if b = q then some j else if O b = some i then none else O b) (σ.set j (some (.ref q))) (lendE env i j xs) ts te H := by
  have nij : i ≠ j := by rintro rfl; rw [ei] at ej; cases ej
  have il : i < env.length := (List.getElem?_eq_some_iff.mp ei).1
  have jl : j < env.length := (List.getElem?_eq_some_iff.mp ej).1
  have ln := R.ln
  obtain ⟨q', vs, eq, oq, hqH, dq⟩ := hq
  cases eq
  have bioi : B.io i = false := by
    cases z : B.io i with
    | false => rfl
    | true => obtain ⟨o, ho⟩ := R.bi i z; rw [ei] at ho; cases ho
  have bioj : B.io j = false := by
    cases z : B.io j with
    | false => rfl
    | true => obtain ⟨o, ho⟩ := R.bi j z; rw [ej] at ho; cases ho
  obtain ⟨w1, w2, w3⟩ := lend_vs B F H O i j (.ref a) q
  have og : ∀ m b, m ≠ i → O b = some m → (if b = q then some j else if O b = some i then none else O b) = some m ∧ O b ≠ some i := fun m b nm z => by
    have n1 : O b ≠ some i := by rw [z]; exact fun y => nm (Option.some.inj y)
    have n2 : b ≠ q := fun y => n1 (by rw [y]; exact oq)
    exact ⟨by rw [if_neg n2, if_neg n1]; exact z, n1⟩
  have sg : ∀ n w, n ≠ j → σ[n]? = some (some w) → (σ.set j (some (.ref q)))[n]? = some (some w) := fun n w nj e => by rw [List.getElem?_set, if_neg (Ne.symm nj)]; exact e
  have rf1 : ∀ n p, isRf i (.rf n p) = false → n ≠ i := fun n p h e => by subst e; simp [isRf] at h
  have rf2 : ∀ n p, isRf j (.rf n p) = false → n ≠ j := fun n p h e => by subst e; simp [isRf] at h
  have ow : ∀ m b, m ≠ i → O b = some m → B.H b = none → (if b = q then some j else if O b = some i then none else O b) = some m ∧ (B.lend F H O i j (.ref a) q).H b = none := fun m b nm z hb => by
    obtain ⟨z1, z2⟩ := og m b nm z
    exact ⟨z1, (if_neg z2).trans hb⟩
  have cell : ∀ m v c, m ≠ i → m ≠ j → env[m]? = some (some c) → CellO K B F H O σ m v c → CellO K (B.lend F H O i j (.ref a) q) F H (fun b => if b = q then some j else if O b = some i then none else O b) (σ.set j (some (.ref q))) m v c := fun m v c n1 n2 e h => by
    refine cell_rebase (fun _ => R.b1) rfl (fun b => ow m b n1) (fun _ => ⟨fun b z => (og m b n1 z).1, w3 m v n1 n2⟩) (fun n p ec => ?_) h
    subst ec
    have y1 := rf1 n p (anyC_env ri e)
    have y2 := rf2 n p (anyC_env rj e)
    exact ⟨fun w => sg n w y2, fun b z => (og n b y1 z).1⟩
  refine ⟨by rw [List.length_set]; unfold lendE; rw [List.length_set, List.length_set]; exact ln, fun m c e => ?_, ?_, R.sf, fun b m z => ?_, Same.refl F, fun b o hs ht e => ?_, fun b h1 h2 => absurd h1 h2, fun b h1 => ?_, fun m hm => ?_, ?_, R.tb.2⟩
  · unfold lendE at e
    rw [List.getElem?_set] at e
    by_cases mj : j = m
    · subst mj
      rw [if_pos rfl, if_pos (by rw [List.length_set]; exact jl)] at e
      cases e
      exact ⟨.ref q, by rw [List.getElem?_set, if_pos rfl, if_pos (by omega)], ⟨q, vs, rfl, if_pos rfl, hqH, dq⟩, w2 nij⟩
    · rw [if_neg mj, List.getElem?_set] at e
      by_cases mi : i = m
      · subst mi
        rw [if_pos rfl, if_pos il] at e
        cases e
        exact ⟨.ref a, sg i _ nij hv, trivial, w1⟩
      · rw [if_neg mi] at e
        obtain ⟨v, e1, h⟩ := R.sl m c e
        exact ⟨v, sg m v (Ne.symm mj) e1, cell m v c (Ne.symm mi) (Ne.symm mj) e h⟩
  · refine tm_rebase (B := B) (B' := B.lend F H O i j (.ref a) q) (O := O) (O' := fun b => if b = q then some j else if O b = some i then none else O b) rfl (List.length_set) (fun m b hm => ow m b (by omega)) ti (fun _ => R.b1) (fun n p hm => ?_) R.tm
    have y1 := rf1 n p (anyC_te ri hm)
    have y2 := rf2 n p (anyC_te rj hm)
    exact ⟨fun w => sg n w y2, fun b z => (og n b y1 z).1⟩
  · rw [List.length_set]
    by_cases bq : b = q
    · rw [if_pos bq] at z
      cases z
      obtain ⟨h1, h2, h3, h4⟩ := R.of q i oq
      subst bq
      exact ⟨h1, h2, by omega, .inr ⟨if_pos rfl, by show (j == j || B.io j) = true; simp⟩⟩
    · rw [if_neg bq] at z
      by_cases ob : O b = some i
      · rw [if_pos ob] at z; cases z
      · rw [if_neg ob] at z
        obtain ⟨h1, h2, h3, h4⟩ := R.of b m z
        refine ⟨h1, h2, h3, h4.imp (fun y => (if_neg ob).trans y) fun y => ⟨?_, ?_⟩⟩
        · show (if b = q then some j else if O b = some i then none else B.S b) = some m
          rw [if_neg bq, if_neg ob]; exact y.1
        · show (m == j || B.io m) = true
          rw [y.2, Bool.or_true]
  · have hs : (if b = q then some j else if O b = some i then none else B.S b) = none := hs
    have e : (if O b = some i then H b else B.H b) = some o := e
    by_cases bq : b = q
    · rw [if_pos bq] at hs; cases hs
    · rw [if_neg bq] at hs
      by_cases ob : O b = some i
      · rw [if_pos ob] at e; exact e
      · rw [if_neg ob] at e hs
        exact R.b2 b o hs ht e
  · have h1 : (if O b = some i then H b else B.H b) ≠ none := h1
    by_cases ob : O b = some i
    · rw [if_pos ob] at h1; exact h1
    · rw [if_neg ob] at h1; exact R.b5 b h1
  · have hm : (m == j || B.io m) = true := hm
    by_cases mj : m = j
    · exact ⟨.l xs, by unfold lendE; rw [List.getElem?_set, if_pos mj.symm, if_pos (by rw [List.length_set]; exact jl)]⟩
    · have hm2 : B.io m = true := by
        rw [Bool.or_eq_true] at hm
        rcases hm with hm | hm
        · exact absurd (by simpa using hm) mj
        · exact hm
      obtain ⟨o, ho⟩ := R.bi m hm2
      have mi : m ≠ i := fun y => by rw [y, bioi] at hm2; cases hm2
      exact ⟨o, by unfold lendE; rw [List.getElem?_set, if_neg (Ne.symm mj), List.getElem?_set, if_neg (Ne.symm mi)]; exact ho⟩
  · intro p hp
    obtain ⟨t1, t2, t3⟩ := R.tb.1 p hp
    have o1 := (R.tabO hp).1
    have ob : O p.1 ≠ some i := by rw [o1]; exact nofun
    have bq : p.1 ≠ q := fun y => ob (by rw [y]; exact oq)
    refine ⟨R.noF hp, ?_, ?_⟩
    · show (if O p.1 = some i then H p.1 else B.H p.1) ≠ none
      rw [if_neg ob]; exact t2
    · show (if p.1 = q then some j else if O p.1 = some i then none else B.S p.1) = none
      rw [if_neg bq, if_neg ob]; exact t3

/-- the list is given back -/
theorem RelF.unlend (R : RelF K B F O σ env ts te H) {kvs : List (Leaf × List Dt)} {k : Leaf} {ys : List Dt} {us : List (Leaf × V)} (ei : env[i]? = some (some (.own (.x (.dnl kvs))))) (ej : env[j]? = some none) (ti : te.any isIo = false)
    (hv : σ[i]? = some (some (.ref a))) (ha : H a = some (DicN K.P K.w a us)) (oa : O a = some i) (nd : (us.map (·.2)).Nodup ∧ (us.map (·.1)).Nodup) (nm : V.ref a ∉ us.map (·.2)) (pr : Paired (fun (p : Leaf × V) (q : Leaf × List Dt) => p.1 = q.1 ∧ OwL K F H (fun b => O b = some i) p.2 q.2) us kvs)
    (hk : valV us k = some (.ref q)) (oq : O q = some i) {σ3 : List (Option V)} {H3 F3 : Hp} {O3 : Addr → Option Nat}
    (R3 : RelF K (B.lend F H O i j (.ref a) q) F3 O3 σ3 e3 ts te H3) (i3 : e3[i]? = some (some (.io (.x .lam)))) (j3 : e3[j]? = some (some (.io (.l ys)))) (ri : anyC (isRf i) e3 te = false) (rj : anyC (isRf j) e3 te = false) (oi : onlyIo env e3 i j = true) (nl : anyC isLk e3 te = false) :
    Rel K B σ3 ((e3.set i (some (.own (.x (.dnl (setL kvs k ys)))))).set j none) ts te H3 := by
  have nij : i ≠ j := by rintro rfl; rw [ei] at ej; cases ej
  have il : i < e3.length := (List.getElem?_eq_some_iff.mp i3).1
  have jl : j < e3.length := (List.getElem?_eq_some_iff.mp j3).1
  have ln := R.ln
  have bioi : B.io i = false := by
    cases z : B.io i with
    | false => rfl
    | true => obtain ⟨o, ho⟩ := R.bi i z; rw [ei] at ho; cases ho
  have bioj : B.io j = false := by
    cases z : B.io j with
    | false => rfl
    | true => obtain ⟨o, ho⟩ := R.bi j z; rw [ej] at ho; cases ho
  obtain ⟨w1, w2, w3⟩ := lend_vs B F H O i j (.ref a) q
  -- the list
  obtain ⟨vj, hvj, ⟨⟨q', vs, eq', oq3, hqH, dq⟩, bvj⟩⟩ := R3.sl j _ j3
  rw [w2 nij] at bvj
  have eqq : vj = .ref q := (Option.some.inj bvj).symm
  rw [eqq] at eq'
  cases eq'
  have oq3 : O3 q = some j := oq3
  obtain ⟨vi, hvi, ⟨_, bvi⟩⟩ := R3.sl i _ i3
  rw [w1] at bvi
  have evi : vi = .ref a := (Option.some.inj bvi).symm
  rw [evi] at hvi
  -- what else the slot owned
  have bh : ∀ b, O b = some i → (B.lend F H O i j (.ref a) q).H b = H b := fun b z => if_pos z
  have bs : ∀ b, O b = some i → b ≠ q → (B.lend F H O i j (.ref a) q).S b = none := fun b z n => by
    show (if b = q then some j else if O b = some i then none else B.S b) = none
    rw [if_neg n, if_pos z]
  have keep : ∀ b, O b = some i → b ≠ q → H3 b = H b ∧ F3 b = none ∧ O3 b = none := fun b z n => by
    obtain ⟨f0, mu, _, _⟩ := R.of b i z
    cases hb : H b with
    | none => exact absurd hb mu.1
    | some o =>
      have t : ∀ ps, o ≠ .tbl ps := fun ps y => mu.2.2.2.2.1 ps (by rw [hb, y])
      refine ⟨R3.b2 b o (bs b z n) t ((bh b z).trans hb), ?_, ?_⟩
      · refine Classical.byContradiction fun y => ?_
        rcases R3.b3 b f0 y with y | y
        · rw [bh b z, hb] at y; cases y
        · exact y (bs b z n)
      · cases e : O3 b with
        | none => rfl
        | some m =>
          rcases (R3.of b m e).2.2.2 with y | y
          · rw [bh b z, hb] at y; cases y
          · rw [bs b z n] at y; cases y.1
  have naq : a ≠ q := fun y => nm (by
    rw [y]
    unfold valV at hk
    cases f : us.find? fun kv => decide (kv.1 = k) with
    | none => rw [f] at hk; cases hk
    | some kv => rw [f] at hk; exact List.mem_map.mpr ⟨kv, List.mem_of_find?_eq_some f, Option.some.inj hk⟩)
  have bHn : ∀ b, O b = some i → B.H b = none := fun b z => by
    rcases (R.of b i z).2.2.2 with y | y
    · exact y
    · rw [bioi] at y; cases y.2
  -- what the slots own from now on
  have o4 : ∀ m b, m ≠ j → O3 b = some m → (if O b = some i then some i else if O3 b = some j then none else O3 b) = some m ∧ O b ≠ some i := fun m b nm z => by
    have n2 : O b ≠ some i := fun y => by
      by_cases bq : b = q
      · rw [bq, oq3] at z; exact nm (Option.some.inj z).symm
      · rw [(keep b y bq).2.2] at z; cases z
    exact ⟨by rw [if_neg n2, if_neg (by rw [z]; exact fun y => nm (Option.some.inj y))]; exact z, n2⟩
  have ow : ∀ m b, m ≠ j → O3 b = some m → (B.lend F H O i j (.ref a) q).H b = none → (if O b = some i then some i else if O3 b = some j then none else O3 b) = some m ∧ B.H b = none := fun m b nm z hb => by
    obtain ⟨z1, z2⟩ := o4 m b nm z
    exact ⟨z1, by rw [← show (B.lend F H O i j (.ref a) q).H b = B.H b from if_neg z2]; exact hb⟩
  have rf1 : ∀ n p, isRf i (.rf n p) = false → n ≠ i := fun n p h e => by subst e; simp [isRf] at h
  have rf2 : ∀ n p, isRf j (.rf n p) = false → n ≠ j := fun n p h e => by subst e; simp [isRf] at h
  refine ⟨F3, fun b => if O b = some i then some i else if O3 b = some j then none else O3 b, by rw [List.length_set, List.length_set]; exact R3.ln, fun m c e => ?_, ?_, R3.sf, fun b m z => ?_, R.b1.trans R3.b1, fun b o hs ht e => ?_, fun b h1 h2 => ?_, fun b h1 => ?_, fun m hm => ?_, R.tb.1, R3.tb.2⟩
  · rw [List.getElem?_set] at e
    by_cases mj : j = m
    · rw [if_pos mj, if_pos (by rw [List.length_set]; exact jl)] at e; cases e
    · rw [if_neg mj, List.getElem?_set] at e
      by_cases mi : i = m
      · subst mi
        rw [if_pos rfl, if_pos il] at e
        cases e
        refine ⟨.ref a, hvi, a, us, rfl, ⟨if_pos oa, bHn a oa⟩, by rw [(keep a oa naq).1]; exact ha, nd, nm, ?_⟩
        have kp : ∀ {vs0 : List (Leaf × V)} {ks0 : List (Leaf × List Dt)}, (vs0.map (·.2)).Nodup → (vs0.map (·.1)).Nodup → (∀ kv ∈ vs0, kv.1 = k ↔ kv.2 = .ref q) → Paired (fun (p : Leaf × V) (q : Leaf × List Dt) => p.1 = q.1 ∧ OwL K F H (fun b => O b = some i) p.2 q.2) vs0 ks0 →
            Paired (fun (p : Leaf × V) (z : Leaf × List Dt) => p.1 = z.1 ∧ OwL K F3 H3 (fun b => (if O b = some i then some i else if O3 b = some j then none else O3 b) = some i ∧ B.H b = none) p.2 z.2) vs0 (setL ks0 k ys) := by
          intro vs0
          induction vs0 with
          | nil => intro ks0 _ _ _ p; cases p; exact .nil
          | cons z r ih =>
            intro ks0 n1 n2 hz p
            cases p with
            | cons g p =>
              rename_i y0 ks
              obtain ⟨ek, a2, vs2, e2, o2, h2, d2⟩ := g
              have n1' := List.nodup_cons.mp (show (z.2 :: r.map (·.2)).Nodup from n1)
              have n2' := List.nodup_cons.mp (show (z.1 :: r.map (·.1)).Nodup from n2)
              unfold setL
              rw [List.map_cons]
              refine .cons ?_ (ih n1'.2 n2'.2 (fun kv h => hz kv (List.mem_cons_of_mem _ h)) p)
              by_cases c : y0.1 = k
              · rw [if_pos c]
                have : z.2 = .ref q := (hz z List.mem_cons_self).mp (ek.trans c)
                exact ⟨ek, q, vs, this, ⟨if_pos oq, bHn q oq⟩, hqH, dq⟩
              · rw [if_neg c]
                have nq : a2 ≠ q := fun y => c (ek.symm.trans ((hz z List.mem_cons_self).mpr (by rw [e2, y])))
                refine ⟨ek, a2, vs2, e2, ⟨if_pos o2, bHn a2 o2⟩, by rw [(keep a2 o2 nq).1]; exact h2, DnAll.same R3.b1 d2⟩
        refine kp nd.1 nd.2 (fun kv hkv => ?_) pr
        exact keyL_val nd.1 nd.2 hk kv hkv
      · rw [if_neg mi] at e
        obtain ⟨v, e1, h⟩ := R3.sl m c e
        refine ⟨v, e1, cell_rebase (B := B.lend F H O i j (.ref a) q) (O := O3) (fun z => by rw [anyC_env nl e] at z; cases z) rfl (fun b => ow m b (Ne.symm mj)) (fun hc => ⟨fun b z => (o4 m b (Ne.symm mj) z).1, fun hb => ?_⟩) (fun n p ec => ?_) h⟩
        · have := List.all_eq_true.mp oi m (List.mem_range.mpr (List.getElem?_eq_some_iff.mp e).1)
          rw [e] at this
          cases c <;> try (cases hc)
          rename_i o5
          have im : (m == i) = false := by rw [beq_eq_false_iff_ne]; exact Ne.symm mi
          have jm : (m == j) = false := by rw [beq_eq_false_iff_ne]; exact Ne.symm mj
          rw [im, jm, Bool.false_or, Bool.false_or] at this
          dsimp only at this
          split at this
          · rename_i o6 e6
            obtain ⟨v6, _, h6⟩ := R.sl m _ e6
            have := w3 m v6 (Ne.symm mi) (Ne.symm mj) h6.2
            rw [this] at hb
            rw [← Option.some.inj hb]
            exact h6.2
          · cases this
        · subst ec
          have y1 := rf1 n p (anyC_env ri e)
          have y2 := rf2 n p (anyC_env rj e)
          exact ⟨fun w z => z, fun b z => (o4 n b y2 z).1⟩
  · have l3 := R3.ln
    refine tm_rebase (B := B.lend F H O i j (.ref a) q) (B' := B) (O := O3) (O' := fun b => if O b = some i then some i else if O3 b = some j then none else O3 b) rfl rfl (fun m b hm => ow m b (by omega)) ti (fun z => by
      unfold anyC at nl
      rw [z, Bool.or_true] at nl
      cases nl) (fun n p hm => ?_) R3.tm
    have y2 := rf2 n p (anyC_te rj hm)
    exact ⟨fun w z => z, fun b z => (o4 n b y2 z).1⟩
  · have z : (if O b = some i then some i else if O3 b = some j then none else O3 b) = some m := z
    have l3 := R3.ln
    by_cases ob : O b = some i
    · rw [if_pos ob] at z
      cases z
      by_cases bq : b = q
      · subst bq
        obtain ⟨h1, h2, h3, h4⟩ := R3.of b j oq3
        exact ⟨h1, h2, by omega, .inl (bHn b oq)⟩
      · obtain ⟨k1, k2, k3⟩ := keep b ob bq
        exact ⟨k2, by rw [k1]; exact (R.of b i ob).2.1, by omega, .inl (bHn b ob)⟩
    · rw [if_neg ob] at z
      by_cases ojb : O3 b = some j
      · rw [if_pos ojb] at z; cases z
      · rw [if_neg ojb] at z
        obtain ⟨h1, h2, h3, h4⟩ := R3.of b m z
        have mj : m ≠ j := fun y => ojb (by rw [z, y])
        have bq : b ≠ q := fun y => ob (by rw [y]; exact oq)
        refine ⟨h1, h2, h3, h4.imp (fun y => ?_) fun y => ⟨?_, ?_⟩⟩
        · rw [← show (B.lend F H O i j (.ref a) q).H b = B.H b from if_neg ob]; exact y
        · have y1 : (if b = q then some j else if O b = some i then none else B.S b) = some m := y.1
          rw [if_neg bq, if_neg ob] at y1; exact y1
        · have y2 : (m == j || B.io m) = true := y.2
          rw [Bool.or_eq_true] at y2
          rcases y2 with y2 | y2
          · exact absurd (by simpa using y2) mj
          · exact y2
  · have ob : O b ≠ some i := fun y => by rw [bHn b y] at e; cases e
    have bq : b ≠ q := fun y => ob (by rw [y]; exact oq)
    refine R3.b2 b o ?_ ht ((if_neg ob).trans e)
    show (if b = q then some j else if O b = some i then none else B.S b) = none
    rw [if_neg bq, if_neg ob]; exact hs
  · by_cases fb : F b = none
    case neg => exact R.b3 b h1 fb
    rcases R3.b3 b fb h2 with y | y
    · by_cases ob : O b = some i
      · exact .inl (bHn b ob)
      · exact .inl (by rw [← show (B.lend F H O i j (.ref a) q).H b = B.H b from if_neg ob]; exact y)
    · by_cases bq : b = q
      · rw [bq, (R3.of q j oq3).1] at h2; exact absurd rfl h2
      · by_cases ob : O b = some i
        · exact absurd (bs b ob bq) y
        · refine .inr fun z => y ?_
          show (if b = q then some j else if O b = some i then none else B.S b) = none
          rw [if_neg bq, if_neg ob]; exact z
  · have ob : O b ≠ some i := fun y => h1 (bHn b y)
    refine R3.b5 b ?_
    rw [show (B.lend F H O i j (.ref a) q).H b = B.H b from if_neg ob]; exact h1
  · obtain ⟨o, ho⟩ := R3.bi m (by show (m == j || B.io m) = true; rw [hm, Bool.or_true])
    have mi : m ≠ i := fun y => by rw [y, bioi] at hm; cases hm
    have mj : m ≠ j := fun y => by rw [y, bioj] at hm; cases hm
    exact ⟨o, by rw [List.getElem?_set, if_neg (Ne.symm mj), List.getElem?_set, if_neg (Ne.symm mi)]; exact ho⟩
end
section
variable {K : KW} {B : Bs} {W : WX} {F H : Hp} {O : Addr → Option Nat} {σ : List (Option V)} {env : Env} {ts : List V} {te : List A}
/-- what the slot i owns takes in what the top owns; who owns what is told -/
theorem rel_giveF {u v : V} {i : Nat} {c : A} {o o' : Ow} {ca : A} {p : Addr} {ob : HO} (R : RelF K B F O σ env (v :: ts) (c :: te) H) (hw : σ[i]? = some (some u)) (ea : env[i]? = some (some ca)) (eo : owAt env i = some o) (op : O p = some i) (mo : MutO (some ob))
    (newO : ∀ own' : Addr → Prop, (∀ b, O b = some i ∨ (∃ w, c = .own w ∧ O b = some (σ.length + ts.length)) → own' b) → OwO K F (upd H p ob) own' u o')
    (hnest : ∀ O' : Addr → Option Nat, O' p = some i → ∀ k' w, anyC (isNestK i k') env te = true → atP H O i u w (some k') → atP (upd H p ob) O' i u w (some k')) : RelF K B F (fun b => if O b = some (σ.length + ts.length) then ownTo c i else O b) σ (env.set i (some (reOw ca o'))) ts te (upd H p ob) := by
  have ln := R.ln
  have il : i < σ.length := (List.getElem?_eq_some_iff.mp hw).1
  let O' : Addr → Option Nat := fun b => if O b = some (σ.length + ts.length) then ownTo c i else O b
  have R2 := R.pop
  have hpn : O p ≠ some (σ.length + ts.length) := by rw [op]; exact fun z => by have := Option.some.inj z; omega
  have o1 : ∀ b j, O b = some j → j ≠ σ.length + ts.length → O' b = some j := fun b j z nj => (if_neg (by rw [z]; exact fun y => nj (Option.some.inj y))).trans z
  have hio : ∀ o0, ca = .io o0 → ∃ o'0, reOw ca o' = .io o'0 := fun o0 e => ⟨o', by rw [e]; rfl⟩
  have unp : ∀ b j, (if O b = some (σ.length + ts.length) then none else O b) = some j → O b = some j ∧ j ≠ σ.length + ts.length := fun b j z => by
    split at z
    · cases z
    · rename_i hb; exact ⟨z, fun y => hb (by rw [z, y])⟩
  refine R2.chg (O' := O') (H' := upd H p ob) (F' := F) ea hw (Same.refl F) (fun b x e => ?_) (fun j b nj z => ?_) (fun b j z => ?_) (fun b z => ?_) (fun b x hs hB hHb => ?_) (fun b x nb z => ?_) (fun b hb => ?_) (fun b h1 h2 => absurd h1 h2) ?_ hio (fun k' w hany hat => ?_)
  · rw [upd_ne (fun z => by rw [z, (R.of p i op).1] at e; cases e)]
    exact R.sf b x e
  · obtain ⟨z1, nn2⟩ := unp b j z
    exact ⟨o1 b j z1 nn2, upd_ne (fun y => by rw [y, op] at z1; exact nj (Option.some.inj z1).symm), (R.of b j z1).1⟩
  · have z : (if O b = some (σ.length + ts.length) then ownTo c i else O b) = some j := z
    show j = i ∨ (if O b = some (σ.length + ts.length) then none else O b) = some j
    by_cases hb : O b = some (σ.length + ts.length)
    · rw [if_pos hb] at z
      cases c <;> first | (cases z; exact .inl rfl) | cases z
    · rw [if_neg hb] at z ⊢
      exact .inr z
  · have z : (if O b = some (σ.length + ts.length) then ownTo c i else O b) = some i := z
    have mu : ∀ j, O b = some j → MutO (upd H p ob b) := fun j zj => by
      by_cases hb : b = p
      · rw [hb, upd_same]; exact mo
      · rw [upd_ne hb]; exact (R.of b j zj).2.1
    by_cases hb : O b = some (σ.length + ts.length)
    · obtain ⟨q1, q2, q3, q4⟩ := R.of b _ hb
      refine ⟨q1, mu _ hb, .inl ?_⟩
      rcases q4 with y | y
      · exact y
      · obtain ⟨o9, h9⟩ := R.bi _ y.2
        have := (List.getElem?_eq_some_iff.mp h9).1
        omega
    · rw [if_neg hb] at z
      obtain ⟨q1, q2, q3, q4⟩ := R.of b _ z
      exact ⟨q1, mu _ z, q4⟩
  · by_cases hb : b = p
    · subst hb
      rcases (R.of b i op).2.2.2 with y | y
      · exact absurd y hB
      · rw [y.1] at hs; cases hs
    · rw [upd_ne hb]; exact hHb
  · have nb : (if O b = some (σ.length + ts.length) then none else O b) = none := nb
    rw [upd_ne (fun y => by
      rw [y] at nb
      by_cases hb : O p = some (σ.length + ts.length)
      · rw [op] at hb
        have := (List.getElem?_eq_some_iff.mp hw).1
        have := Option.some.inj hb
        omega
      · rw [if_neg hb, op] at nb
        cases nb)]
    exact z
  · by_cases hb2 : b = p
    · rw [hb2, upd_same]; exact nofun
    · rw [upd_ne hb2]; exact hb
  · have od : ∀ b, O b = some i ∨ (∃ w, c = .own w ∧ O b = some (σ.length + ts.length)) → O' b = some i := fun b z => by
      rcases z with z | ⟨w, ew, z⟩
      · exact o1 b i z (by omega)
      · have z9 : O' b = ownTo c i := if_pos z
        rw [z9, ew]
        rfl
    rcases owAt_cell eo with e2 | e2
    · rw [ea] at e2
      cases e2
      refine newO _ fun b z => ⟨od b z, ?_⟩
      rcases z with z | ⟨w, ew, z⟩
      · rcases (R.of b i z).2.2.2 with y | y
        · exact y
        · obtain ⟨o9, h9⟩ := R.bi i y.2
          rw [ea] at h9
          cases h9
      · rcases (R.of b _ z).2.2.2 with y | y
        · exact y
        · obtain ⟨o9, h9⟩ := R.bi _ y.2
          have := (List.getElem?_eq_some_iff.mp h9).1
          omega
    · rw [ea] at e2
      cases e2
      obtain ⟨w', hw', c'⟩ := R.sl i _ ea
      rw [hw] at hw'
      cases hw'
      exact ⟨newO _ od, c'.2⟩
  · refine hnest O' (o1 p i op (by omega)) k' w hany (hat.mono fun _ b z => ?_)
    exact ⟨(unp b i z).1, rfl⟩
theorem dnl_cell (R : RelF K B F O σ env ts te H) {j : Nat} {v : V} {a : A} {i : Nat} {kvs : List (Leaf × List Dt)} (c : CellO K B F H O σ j v a) (h : dnlAt env a = some (i, kvs)) :
    ∃ q us, v = .ref q ∧ a = .rf i none ∧ σ[i]? = some (some v) ∧ O q = some i ∧ owAt env i = some (.x (.dnl kvs)) ∧ H q = some (DicN K.P K.w q us) ∧ ((us.map (·.2)).Nodup ∧ (us.map (·.1)).Nodup) ∧ V.ref q ∉ us.map (·.2) ∧ Paired (fun (p : Leaf × V) (q : Leaf × List Dt) => p.1 = q.1 ∧ OwL K F H (fun b => O b = some i) p.2 q.2) us kvs := by
  unfold dnlAt at h
  split at h
  · rename_i i'
    split at h
    · rename_i ys eo
      cases h
      obtain ⟨w, hw, e⟩ := c
      have e : v = w := e
      subst e
      obtain ⟨q, us, e1, o1, h1, n1, m1, p1⟩ := R.owAt eo hw
      exact ⟨q, us, e1, rfl, hw, o1, eo, h1, n1, m1, p1⟩
    · cases h
  · cases h
theorem pairL_val {own : Addr → Prop} : ∀ {us : List (Leaf × V)} {kvs : List (Leaf × List Dt)} (p : Paired (fun (p : Leaf × V) (q : Leaf × List Dt) => p.1 = q.1 ∧ OwL K F H own p.2 q.2) us kvs) (k : Leaf), (∀ x, lkL kvs k = some x → ∃ v, valV us k = some v ∧ OwL K F H own v x) ∧ (lkL kvs k = none → valV us k = none)
  | _, _, .nil, _ => ⟨(fun x h => nomatch h), fun _ => rfl⟩
  | p :: us, q :: kvs, .cons h r, k => by
    have ih := pairL_val r k
    unfold lkL valV
    rw [List.find?_cons, List.find?_cons, h.1]
    by_cases c : q.1 = k
    · rw [decide_eq_true c]
      exact ⟨fun x z => ⟨p.2, rfl, by cases z; exact h.2⟩, fun z => nomatch z⟩
    · rw [decide_eq_false c]
      exact ih
theorem pairL_len {own : Addr → Prop} : ∀ {us : List (Leaf × V)} {kvs : List (Leaf × List Dt)} (p : Paired (fun (p : Leaf × V) (q : Leaf × List Dt) => p.1 = q.1 ∧ OwL K F H own p.2 q.2) us kvs), us.length = kvs.length
  | _, _, .nil => rfl
  | _, _, .cons _ r => congrArg (· + 1) (pairL_len r)
theorem pairL_app {own : Addr → Prop} {k : Leaf} {v : V} {x : List Dt} (d : OwL K F H own v x) : ∀ {us : List (Leaf × V)} {kvs : List (Leaf × List Dt)} (p : Paired (fun (p : Leaf × V) (q : Leaf × List Dt) => p.1 = q.1 ∧ OwL K F H own p.2 q.2) us kvs), Paired (fun (p : Leaf × V) (q : Leaf × List Dt) => p.1 = q.1 ∧ OwL K F H own p.2 q.2) (us ++ [(k, v)]) (kvs ++ [(k, x)])
  | _, _, .nil => .cons ⟨rfl, d⟩ .nil
  | p :: us, q :: kvs, .cons h r => .cons h (pairL_app d r)
theorem valL_none {us : List (Leaf × V)} {k : Leaf} (h : valV us k = none) : (us.any fun kv => decide (kv.1 = k)) = false ∧ k ∉ us.map (·.1) := by
  unfold valV at h
  have f : us.find? (fun kv => decide (kv.1 = k)) = none := by
    cases f : us.find? fun kv => decide (kv.1 = k) with
    | none => rfl
    | some kv => rw [f] at h; cases h
  have g : ∀ kv ∈ us, decide (kv.1 = k) = false := fun kv hm => by simpa using List.find?_eq_none.mp f kv hm
  refine ⟨List.any_eq_false.mpr fun kv hm => by rw [g kv hm]; exact Bool.false_ne_true, fun z => ?_⟩
  obtain ⟨kv, hm, e⟩ := List.mem_map.mp z
  have := g kv hm
  rw [decide_eq_true e] at this
  cases this
theorem pop3 {w u v : V} {a b c : A} (R : RelF K B F O σ env (w :: u :: v :: ts) (c :: b :: a :: te) H) : ∃ O', RelF K B F O' σ env ts te H ∧ ∀ x n, n < σ.length → O x = some n → O' x = some n := by
  have g : ∀ m, σ.length ≤ m → ∀ x n, n < σ.length → (some n : Option Nat) ≠ some m := fun m hm x n hn y => by have := Option.some.inj y; omega
  refine ⟨_, R.pop.pop.pop, fun x n hn z => ?_⟩
  simp only [List.length_cons]
  have h1 : (some n : Option Nat) ≠ some (σ.length + (ts.length + 1 + 1)) := fun y => by have := Option.some.inj y; omega
  have h2 : (some n : Option Nat) ≠ some (σ.length + (ts.length + 1)) := fun y => by have := Option.some.inj y; omega
  have h3 : (some n : Option Nat) ≠ some (σ.length + ts.length) := fun y => by have := Option.some.inj y; omega
  simp only [z, h1, h2, h3, if_false]
theorem mid2 {w u v : V} {a b c : A} (R : RelF K B F O σ env (w :: u :: v :: ts) (c :: b :: a :: te) H) (nc : isIo c = false) : ∃ O', RelF K B F O' σ env (w :: ts) (c :: te) H ∧ ∀ x n, n < σ.length → O x = some n → O' x = some n := by
  refine ⟨_, (R.mid nc).mid nc, fun x n hn z => ?_⟩
  simp only [List.length_cons]
  have h1 : (some n : Option Nat) ≠ some (σ.length + (ts.length + 1) + 1) := fun y => by have := Option.some.inj y; omega
  have h2 : (some n : Option Nat) ≠ some (σ.length + (ts.length + 1)) := fun y => by have := Option.some.inj y; omega
  have h3 : (some n : Option Nat) ≠ some (σ.length + ts.length) := fun y => by have := Option.some.inj y; omega
  have h4 : (some n : Option Nat) ≠ some (σ.length + ts.length + 1) := fun y => by have := Option.some.inj y; omega
  simp only [z, h1, h2, h3, h4, if_false]
/-- the rest of the block, with the list handed over -/
theorem lend_run {t : TS} {m : MS} (h : ∀ B, SS K B W t m) (R : RelF K B F O σ env ts te H) {i j : Nat} {D : Ends} {a : Addr} {kvs : List (Leaf × List Dt)} {us : List (Leaf × V)} {k : Leaf} (ei : env[i]? = some (some (.own (.x (.dnl kvs))))) (ej : env[j]? = some none) (ri : anyC (isRf i) env te = false) (rj : anyC (isRf j) env te = false) (ti : te.any isIo = false)
    (hv : σ[i]? = some (some (.ref a))) (ha : H a = some (DicN K.P K.w a us)) (oa : O a = some i) (nd : (us.map (·.2)).Nodup ∧ (us.map (·.1)).Nodup) (nm : V.ref a ∉ us.map (·.2)) (pr : Paired (fun (p : Leaf × V) (q : Leaf × List Dt) => p.1 = q.1 ∧ OwL K F H (fun b => O b = some i) p.2 q.2) us kvs)
    {v : V} (hk : valV us k = some v) (p : PS' K B W ts te D (lendB env te i j kvs k m)) : t D (σ.set j (some v)) H := by
  unfold lendB at p
  cases el : lkL kvs k with
  | none => rw [(pairL_val pr k).2 el] at hk; cases hk
  | some xs =>
    rw [el] at p
    simp only at p
    obtain ⟨v', hv', ol⟩ := (pairL_val pr k).1 xs el
    rw [hk] at hv'
    cases hv'
    obtain ⟨q, vs, e1, oq, hq, dq⟩ := ol
    subst e1
    have R' := R.lend ei ej ri rj ti hv ⟨q, vs, rfl, oq, hq, dq⟩
    refine h _ _ _ ts te H D ⟨F, _, R'⟩ ?_
    cases z : m (lendE env i j xs) te with
    | nx e3 =>
      rw [z] at p
      simp only at p
      split at p
      · rename_i ys i3 j3
        split at p
        · rename_i hc
          rintro σ3 H3 ⟨F3, O3, R3⟩
          exact p σ3 H3 (R.unlend ei ej ti hv ha oa nd nm pr hk oq R3 i3 j3 hc.1 hc.2.1 hc.2.2.1 hc.2.2.2)
        · exact p.elim
      · exact p.elim
    | _ => rw [z] at p; exact p.elim
theorem ss_lend {ty tx : TE} {mk mx : ME} {t : TS} {m : MS} (i j : Nat) (hk : SE K B W ty mk) (hx : SE K B W tx mx) (h : ∀ B, SS K B W t m) : SS K B W (tSeq (tAsg (tLSetd K.P K.w (tVar i) ty tx) (gName j)) t) (mLend i j mk mx m) := by
  intro σ env ts te H D R p
  refine SE.thS (se_var i) (Q := fun x H1 => ∃ a us0, x = .ref a ∧ H1 a = some (DicN K.P K.w a us0) ∧ ty σ H1 fun y H2 => tx σ H2 fun z H3 => ∃ us k, H3 a = some (DicN K.P K.w a us) ∧ lfV y = some k ∧ us.length < sizeLine ∧
    (∀ v, valV us k = some v → t D (σ.set j (some v)) H3) ∧ (valV us k = none → t D (σ.set j (some z)) (upd H3 a (DicN K.P K.w a (putK us k z))))) R p fun a e p v H1 R1 => ?_
  split at p
  case isFalse => exact False.elim p
  rename_i hi
  obtain ⟨⟨i0, kv0⟩, eg⟩ := Option.isSome_iff_exists.mp hi
  have ⟨pa0, us0, e0, rd0⟩ : ∃ p us, v = .ref p ∧ H1 p = some (DicN K.P K.w p us) := by
    obtain ⟨F, O, R1⟩ := R1
    obtain ⟨q, us, e1, _, _, _, _, hq, _⟩ := dnl_cell R1 R1.tm.1 eg
    exact ⟨q, us, e1, hq⟩
  refine ⟨pa0, us0, e0, rd0, ?_⟩
  refine hk.thS1 R1 p fun b e1 p u H2 R2 => ?_
  refine hx.thS2 R2 p fun c e2 p w H3 R3 => ?_
  obtain ⟨F, O, R3⟩ := R3
  unfold lendA at p
  split at p
  case h_2 => exact p.elim
  rename_i i' kvs k oc ed eb ei ej
  split at p
  case isFalse => exact p.elim
  rename_i hc
  obtain ⟨rfl, hlen, ri, rj, ti⟩ := hc
  obtain ⟨pa, us, e1, ea, hw, oa, eo, hpa, nd, nm, pr⟩ := dnl_cell R3 R3.tm.2.2.1 ed
  have epp : pa = pa0 := by rw [e0] at e1; exact (V.ref.inj e1).symm
  subst epp
  subst e0
  have eic : e2[i']? = some (some (.own (.x (.dnl kvs)))) := by
    rcases owAt_cell eo with z | z
    · exact z
    · rw [ei] at z; cases z
  have eu : lfV u = some k := by
    cases ev : b.val e2 with
    | none => rw [ev] at eb; cases eb
    | some y => rw [ev] at eb; exact lf_of (cell_val R3 R3.tm.2.1 ev) eb
  have il : i' < e2.length := (List.getElem?_eq_some_iff.mp eic).1
  refine ⟨us, k, hpa, eu, by rw [pairL_len pr]; exact hlen, fun v2 hv2 => ?_, fun hv2 => ?_⟩
  · have el : ∃ xs, lkL kvs k = some xs := by
      cases z : lkL kvs k with
      | some xs => exact ⟨xs, rfl⟩
      | none => rw [(pairL_val pr k).2 z] at hv2; cases hv2
    obtain ⟨xs, el⟩ := el
    have ed2 : defL kvs k = kvs := by unfold defL; rw [el]
    rw [ed2, show e2.set i' (some (.own (.x (.dnl kvs)))) = e2 from (List.ext_getElem? fun n => by
      rw [List.getElem?_set]
      by_cases z : i' = n
      · subst z; rw [if_pos rfl, if_pos il, eic]
      · rw [if_neg z])] at p
    obtain ⟨O4, R4, oo⟩ := pop3 R3
    have il2 : i' < σ.length := by have := R3.ln; omega
    exact lend_run h R4 eic ej ri rj ti hw hpa (oo _ _ il2 oa) nd nm (L2.Paired.mapP pr fun _ _ z => ⟨z.1, z.2.mono (Same.refl F) (fun a y => oo a _ il2 y) (fun _ _ => rfl)⟩) hv2 p
  · have el : lkL kvs k = none := by
      cases z : lkL kvs k with
      | none => rfl
      | some xs => obtain ⟨v3, h3, _⟩ := (pairL_val pr k).1 xs z; rw [h3] at hv2; cases hv2
    have ed2 : defL kvs k = kvs ++ [(k, [])] := by unfold defL; rw [el]
    rw [ed2] at p
    obtain ⟨vany, vkey⟩ := valL_none hv2
    have epk : putK us k w = us ++ [(k, w)] := by unfold putK; rw [if_neg (by rw [vany]; exact Bool.false_ne_true)]
    -- the list on the top, the rest under it dropped
    have hb0 : isIo (.own (.l []) : A) = false := rfl
    have il2 : i' < σ.length := by have := R3.ln; omega
    obtain ⟨O4, R4, oo⟩ := mid2 R3 hb0
    obtain ⟨q, vs, eq, ⟨oq, bq⟩, hq, dq⟩ := (show OwL K F H3 _ w [] from R4.tm.1)
    subst eq
    have oa4 := oo _ _ il2 oa
    have pr4 : Paired (fun (p : Leaf × V) (q : Leaf × List Dt) => p.1 = q.1 ∧ OwL K F H3 (fun b => O4 b = some i') p.2 q.2) us kvs := L2.Paired.mapP pr fun _ _ z => ⟨z.1, z.2.mono (Same.refl F) (fun a y => oo a _ il2 y) (fun _ _ => rfl)⟩
    have nqp : q ≠ pa := fun y => by
      rw [y, oa4] at oq
      have := Option.some.inj oq
      omega
    have nqu : V.ref q ∉ us.map (·.2) := fun z => by
      have aux : ∀ {us : List (Leaf × V)} {kvs : List (Leaf × List Dt)}, Paired (fun (p : Leaf × V) (q : Leaf × List Dt) => p.1 = q.1 ∧ OwL K F H3 (fun b => O4 b = some i') p.2 q.2) us kvs → V.ref q ∉ us.map (·.2) := fun {us kvs} p => by
        induction p with
        | nil => simp
        | cons g _ ih =>
          rw [List.map_cons, List.mem_cons, not_or]
          refine ⟨fun e => ?_, ih⟩
          obtain ⟨_, a2, vs2, e2, o2, _⟩ := g
          rw [e2] at e
          cases e
          rw [o2] at oq
          have := Option.some.inj oq
          omega
      exact aux pr4 z
    have nd5 : ((us ++ [(k, V.ref q)]).map (·.2)).Nodup ∧ ((us ++ [(k, V.ref q)]).map (·.1)).Nodup := by
      rw [List.map_append, List.map_append, List.nodup_append, List.nodup_append]
      refine ⟨⟨nd.1, List.pairwise_singleton _ _, fun x hx y hy e => nqu ?_⟩, nd.2, List.pairwise_singleton _ _, fun x hx y hy e => vkey ?_⟩
      · rw [List.mem_singleton.mp hy] at e; rw [← show x = V.ref q from e]; exact hx
      · rw [List.mem_singleton.mp hy] at e; rw [← show x = k from e]; exact hx
    have nm5 : V.ref pa ∉ (us ++ [(k, V.ref q)]).map (·.2) := by
      rw [List.map_append, List.mem_append, not_or]
      exact ⟨nm, fun z => nqp (V.ref.inj (List.mem_singleton.mp z)).symm⟩
    have hH : ∀ b, b ≠ pa → upd H3 pa (DicN K.P K.w pa (us ++ [(k, V.ref q)])) b = H3 b := fun b n => upd_ne n
    have npr : ∀ {us : List (Leaf × V)} {kvs : List (Leaf × List Dt)} (own' : Addr → Prop), (∀ b, O4 b = some i' → own' b) → V.ref pa ∉ us.map (·.2) → Paired (fun (p : Leaf × V) (q : Leaf × List Dt) => p.1 = q.1 ∧ OwL K F H3 (fun b => O4 b = some i') p.2 q.2) us kvs →
        ∀ Hn : Hp, (∀ b, b ≠ pa → Hn b = H3 b) → Paired (fun (p : Leaf × V) (q : Leaf × List Dt) => p.1 = q.1 ∧ OwL K F Hn own' p.2 q.2) us kvs := fun {us kvs} own' ho n p Hn hHn => by
      induction p with
      | nil => exact .nil
      | cons g _ ih =>
        rw [List.map_cons, List.mem_cons, not_or] at n
        obtain ⟨ek, a2, vs2, e2, o2, h2, d2⟩ := g
        exact .cons ⟨ek, a2, vs2, e2, ho a2 o2, by rw [hHn a2 (fun y => n.1 (by rw [e2, y]))]; exact h2, d2⟩ (ih n.2)
    have newO : ∀ own' : Addr → Prop, (∀ b, O4 b = some i' ∨ (∃ w, (A.own (.l [])) = .own w ∧ O4 b = some (σ.length + ts.length)) → own' b) → Paired (fun (p : Leaf × V) (z : Leaf × List Dt) => p.1 = z.1 ∧ OwL K F (upd H3 pa (DicN K.P K.w pa (us ++ [(k, V.ref q)]))) own' p.2 z.2) (us ++ [(k, V.ref q)]) (kvs ++ [(k, [])]) := fun own' ho =>
      pairL_app ⟨q, vs, rfl, ho q (.inr ⟨_, rfl, oq⟩), by rw [hH q nqp]; exact hq, dq⟩ (npr own' (fun b z => ho b (.inl z)) nm pr4 _ hH)
    have R5 := rel_giveF (o' := .x (.dnl (kvs ++ [(k, [])]))) (p := pa) (ob := DicN K.P K.w pa (us ++ [(k, V.ref q)])) R4 hw eic eo oa4 (mutO_dicN _ _ _ _)
      (fun own' ho => ⟨pa, _, rfl, ho pa (.inl oa4), upd_same, nd5, nm5, newO own' ho⟩) (fun O' _ k' w' hany _ => by
        exfalso
        have nk : ∀ c : A, isRf i' c = false → isNestK i' k' c = false := fun c hc => by
          cases c with
          | rf n p => cases p with
            | none => rfl
            | some kk =>
              have : (n == i') = false := hc
              show ((n == i') && _) = false
              rw [this, Bool.false_and]
          | _ => rfl
        unfold anyC inE at hany ri
        rw [Bool.or_eq_false_iff] at ri
        rw [Bool.or_eq_true] at hany
        rcases hany with hany | hany
        · obtain ⟨c, hc, h1⟩ := List.any_eq_true.mp hany
          have h2 := List.any_eq_false.mp ri.1 c hc
          cases c with
          | none => cases h1
          | some c =>
            have h1 : isNestK i' k' c = true := h1
            rw [nk c (by simpa using h2)] at h1; cases h1
        · obtain ⟨c, hc, h1⟩ := List.any_eq_true.mp hany
          have h2 := List.any_eq_false.mp ri.2 c hc
          rw [nk c (by simpa using h2)] at h1; cases h1)
    rw [epk]
    have re : reOw (A.own (.x (.dnl kvs))) (.x (.dnl (kvs ++ [(k, [])]))) = .own (.x (.dnl (kvs ++ [(k, [])]))) := rfl
    rw [re] at R5
    have nij : i' ≠ j := by rintro rfl; rw [ej] at eic; cases eic
    have o5 : ∀ b, O4 b = some i' ∨ (∃ w, (A.own (.l [])) = .own w ∧ O4 b = some (σ.length + ts.length)) → (if O4 b = some (σ.length + ts.length) then ownTo (.own (.l [])) i' else O4 b) = some i' := fun b z => by
      rcases z with z | ⟨_, _, z⟩
      · rw [z, if_neg (fun y => by have := Option.some.inj y; omega)]
      · rw [if_pos z]; rfl
    have ri5 : ∀ n, anyC (isRf n) e2 te = false → anyC (isRf n) (e2.set i' (some (.own (.x (.dnl (kvs ++ [(k, [])])))))) te = false := fun n hn => by
      unfold anyC inE at hn ⊢
      rw [Bool.or_eq_false_iff] at hn ⊢
      refine ⟨List.any_eq_false.mpr fun c hc => ?_, hn.2⟩
      rcases List.mem_or_eq_of_mem_set hc with hc | hc
      · exact List.any_eq_false.mp hn.1 c hc
      · rw [hc]; exact Bool.false_ne_true
    refine lend_run h R5 (i := i') (j := j) (by rw [List.getElem?_set, if_pos rfl, if_pos il]) (by rw [List.getElem?_set, if_neg nij]; exact ej) (ri5 _ ri) (ri5 _ rj) ti hw upd_same (o5 pa (.inl oa4)) nd5 nm5 (newO _ o5) ?_ p
    unfold valV at hv2 ⊢
    rw [List.find?_append]
    have f : us.find? (fun kv => decide (kv.1 = k)) = none := by
      cases f : us.find? fun kv => decide (kv.1 = k) with
      | none => rfl
      | some kv => rw [f] at hv2; cases hv2
    rw [f]
    simp
end
end Tw

namespace Tw
open PySem PySem.Spec PyProof.Rows L2
/-! ### dict comprehensions -/
open Classical in
noncomputable def dcM (kd : Dt → A) (rd : Env → Option (List Dt)) (xs0 : List Dt) (te : List A) (g : MG) (tt : MT) (kx vx : ME) (vs : List Nat) : List Dt → List (Key × Dt) → Env → Rs (List (Key × Dt))
  | [], acc, env => if rd env = some xs0 then .ok acc env else .bad
  | x :: r, acc, env => if rd env = some xs0 then (match g (kd x) env (.own (.dc acc) :: te) with
    | some e1 => (tt e1 (.own (.dc acc) :: te)).noX.bind fun b e2 => if b = true then (kx e2 (.own (.dc acc) :: te)).noX.bind fun a e3 => (match a with
        | .d y => (vx e3 (.d y :: .own (.dc acc) :: te)).noX.bind fun b e4 => (match b, keyD y with
          | .d z, some k => if acc.length < sizeLine ∧ wipeOk e4 (.own (.dc (putD acc k z)) :: te) vs = true then dcM kd rd xs0 te g tt kx vx vs r (putD acc k z) (wipeE e4 vs) else .bad
          | _, _ => .bad)
        | _ => .bad)
      else if wipeOk e2 (.own (.dc acc) :: te) vs = true then dcM kd rd xs0 te g tt kx vx vs r acc (wipeE e2 vs) else .bad
    | none => .bad) else .bad
noncomputable def mDc (kd : Dt → A) (mi : MI) (g : MG) (tt : MT) (kx vx : ME) (vs : List Nat) : ME := fun env te => (mi env te).bind fun ar e => match ar.2 (wipeE e vs) with
  | some xs => if wipeOk e (.own (.dc []) :: (ar.1 ++ te)) vs = true then (dcM kd ar.2 xs (ar.1 ++ te) g tt kx vx vs xs [] (wipeE e vs)).bind fun ys e2 => .ok (.own (.dc ys)) e2 else .bad
  | none => .bad
section
variable {K : KW} {B : Bs} {W : WX}
theorem dn_keyC {F : Hp} {v : V} {d : Dt} {k : Key} (h : Dn K F v d) (e : keyD d = some k) : v = kV k := by
  cases h <;> first | (cases e; rfl) | cases e
theorem rel_putC {σ : L2.St} {env : Env} {ts : List V} {te : List A} {H : Hp} {D : Addr} {acc : List (Key × Dt)} {y z : V} {yx zx : Dt} {k : Key} (R : Rel K B σ env (z :: y :: .ref D :: ts) (.d zx :: .d yx :: .own (.dc acc) :: te) H) (ek : keyD yx = some k) :
    ∃ us, H D = some (.dK us) ∧ us.length = acc.length ∧ y = kV k ∧ Rel K B σ env (.ref D :: ts) (.own (.dc (putD acc k zx)) :: te) (upd H D (.dK (putK us k z))) := by
  obtain ⟨F, O, R⟩ := R
  have hz : Dn K F z zx := R.tm.1
  have R0 := R.pop
  have hy : Dn K F y yx := R0.tm.1
  have R1 := R0.pop
  obtain ⟨a, us, e, o, h1, d⟩ := R1.tm.1
  cases e
  refine ⟨us, h1, Paired.length d, dn_keyC hy ek, F, _, R1.mutT (o' := .dc (putD acc k zx)) (fun b nb => upd_ne (fun z => nb (by rw [z]; exact o.1))) (fun b hb => ?_) ⟨D, putK us k z, rfl, o, upd_same, paired_put d hz⟩⟩
  by_cases hb2 : b = D
  · rw [hb2, upd_same]; exact mutO_dK _
  · rw [upd_ne hb2]; exact (R1.of b _ hb).2.1
theorem se_dc {ti : TI} {mi : MI} {g : TG} {mg : MG} {tt : TT} {mt : MT} {tk tv : TE} {mk mv : ME} {vs : List Nat} {kd : Dt → A} (hi : SI K B W kd ti mi) (hg : SGw K B vs g mg) (ht : ST K B W0 tt mt) (hk : SE K B W0 tk mk) (hv : SE K B W0 tv mv) : SE K B W (tDc ti g tt tk tv vs) (mDc kd mi mg mt mk mv vs) := by
  intro σ env ts te H Q R p
  refine hi σ env ts te H _ R ?_
  have p : PE' K B W σ ts te Q ((mi env te).bind fun ar e => match ar.2 (wipeE e vs) with
    | some xs => if wipeOk e (.own (.dc []) :: (ar.1 ++ te)) vs = true then (dcM kd ar.2 xs (ar.1 ++ te) mg mt mk mv vs xs [] (wipeE e vs)).bind fun ys e2 => .ok (.own (.dc ys)) e2 else .bad
    | none => .bad) := p
  cases q : mi env te with
  | ex x e => rw [q] at p; exact p
  | bad => rw [q] at p; exact p
  | ok ar e =>
    obtain ⟨as0, rd⟩ := ar
    rw [q] at p
    simp only [Rs.bind_ok] at p
    intro J vs0 H1 hl R1 wd D nD
    cases q2 : rd (wipeE e vs) with
    | none => simp only [q2] at p; exact False.elim p
    | some xs =>
      simp only [q2] at p
      by_cases wok : wipeOk e (.own (.dc []) :: (as0 ++ te)) vs = true
      case neg => rw [if_neg wok] at p; exact False.elim p
      rw [if_pos wok] at p
      obtain ⟨F1, O1, R1⟩ := R1
      have R1' : Rel K B σ e (.ref D :: (vs0 ++ ts)) (.own (.dc []) :: (as0 ++ te)) (upd H1 D (.dK [])) := ⟨F1, _, R1.newL nD (o := .dK []) (mutO_dK _) (w := .dc []) fun own hp => ⟨D, [], rfl, hp, upd_same, .nil⟩⟩
      have R2 := rel_wipe R1' wok
      refine ⟨fun i k H => ∃ env acc, Rel K B (wipe σ vs) env (.ref D :: (vs0 ++ ts)) (.own (.dc acc) :: (as0 ++ te)) H ∧ i ≤ xs.length ∧ k = xs.length - i ∧ PE' K B W σ ts te Q ((dcM kd rd xs (as0 ++ te) mg mt mk mv vs (xs.drop i) acc env).bind fun ys e2 => .ok (.own (.dc ys)) e2),
        ⟨_, _, _, R2, Nat.zero_le _, rfl, p⟩, ?_⟩
      rintro i k H2 ⟨env2, acc, R2, li, rfl, p2⟩
      by_cases il : i < xs.length
      · rw [List.drop_eq_getElem_cons il] at p2
        unfold dcM at p2
        split at p2
        · rename_i hrd
          obtain ⟨go, yl⟩ := (wd i (wipe σ vs) env2 [.ref D] [.own (.dc acc)] ts te H2 xs rfl R2 hrd).2 xs[i] (List.getElem?_eq_getElem il)
          refine .inr ⟨go, fun H => ∃ env acc, Rel K B (wipe σ vs) env (.ref D :: (vs0 ++ ts)) (.own (.dc acc) :: (as0 ++ te)) H ∧ PE' K B W σ ts te Q ((dcM kd rd xs (as0 ++ te) mg mt mk mv vs (xs.drop (i + 1)) acc env).bind fun ys e2 => .ok (.own (.dc ys)) e2), fun H' ⟨env', acc', R', p'⟩ => ⟨_, by omega, env', acc', R', il, rfl, p'⟩, fun x H' hy => ?_⟩
          have R3 : Rel K B (wipe σ vs) env2 (x :: .ref D :: (vs0 ++ ts)) (kd xs[i] :: .own (.dc acc) :: (as0 ++ te)) H' := yl x H' hy
          cases q3 : mg (kd xs[i]) env2 (.own (.dc acc) :: (as0 ++ te)) with
          | none => simp only [q3] at p2; exact False.elim p2
          | some e1 =>
            simp only [q3] at p2
            refine hg (wipe σ vs) env2 _ _ H' x _ e1 _ R3 q3 fun σ4 H4 hw R4 => ⟨hw.trans (wipe_wipe fun _ z => z), ?_⟩
            rw [wipe_wipe fun _ z => z] at hw
            refine ht σ4 e1 _ _ H4 _ R4 ?_
            cases z : mt e1 (.own (.dc acc) :: (as0 ++ te)) with
            | ex x e' => rw [z] at p2; exact False.elim p2
            | bad => rw [z] at p2; exact False.elim p2
            | ok b e2 =>
              rw [z] at p2
              intro H5 R5
              cases b with
              | false =>
                simp only [Rs.noX_ok, Rs.bind_ok, Bool.false_eq_true, if_false] at p2 ⊢
                split at p2
                · rename_i w2
                  refine ⟨_, acc, ?_, p2⟩
                  rw [← hw]
                  exact rel_wipe R5 w2
                · exact False.elim p2
              | true =>
                simp only [Rs.noX_ok, Rs.bind_ok, if_true] at p2 ⊢
                refine hk σ4 e2 _ _ H5 _ R5 ?_
                cases z2 : mk e2 (.own (.dc acc) :: (as0 ++ te)) with
                | ex x e' => rw [z2] at p2; exact False.elim p2
                | bad => rw [z2] at p2; exact False.elim p2
                | ok a e3 =>
                  rw [z2] at p2
                  intro y H6 R6
                  cases a with
                  | d x0 =>
                    simp only [Rs.noX_ok, Rs.bind_ok] at p2
                    refine hv σ4 e3 _ _ H6 _ R6 ?_
                    cases z3 : mv e3 (.d x0 :: .own (.dc acc) :: (as0 ++ te)) with
                    | ex x e' => rw [z3] at p2; exact False.elim p2
                    | bad => rw [z3] at p2; exact False.elim p2
                    | ok b e4 =>
                      rw [z3] at p2
                      intro u H7 R7
                      simp only [Rs.noX_ok, Rs.bind_ok] at p2
                      cases b with
                      | d x1 =>
                        cases ek : keyD x0 with
                        | none => simp only [ek] at p2; exact False.elim p2
                        | some kk =>
                          simp only [ek] at p2
                          split at p2
                          · rename_i w3
                            obtain ⟨us, e6, l6, ey, R8⟩ := rel_putC R7 ek
                            refine ⟨us, kk, ey, e6, by rw [l6]; exact w3.1, _, putD acc kk x1, ?_, p2⟩
                            rw [← hw]
                            exact rel_wipe (te := .own (.dc (putD acc kk x1)) :: (as0 ++ te)) R8 w3.2
                          · exact False.elim p2
                      | _ => exact False.elim p2
                  | _ => exact False.elim p2
        · exact False.elim p2
      · have e1 : i = xs.length := by omega
        rw [List.drop_of_length_le (by omega)] at p2
        unfold dcM at p2
        split at p2
        · rename_i hrd
          refine .inl ⟨(wd i (wipe σ vs) env2 [.ref D] [.own (.dc acc)] ts te H2 xs rfl R2 hrd).1 e1, ?_⟩
          exact p2 _ _ (rel_mid rfl hl (rel_unwipe R2))
        · exact False.elim p2
end
end Tw

namespace Tw
open PySem PySem.Spec PyProof.Rows L2
/-! ### methods of a text with one flat argument -/
/-! ### strip(letters) -/
section
variable {X : Cx} {o e : Expr} {to te : TE}
end
end Tw

/-! str(int), isdigit, split at a text -/
namespace Tw
open PySem PySem.Spec PyProof.Rows L2
/-! a method of a text without arguments -/
def mM0 (g : Str → Dt) (ma : ME) : ME := fun env te => (ma env te).bind fun a e => match a with
  | .d (.str s) => .ok (.d (g s)) e
  | _ => .bad
/-! split at a text -/
end Tw

namespace Tw
open PySem PySem.Spec PyProof.Rows L2
theorem big {n : Nat} (h : n ≤ 100000) : n ≤ sizeLine := by
  rw [PySem.sizeLine_eq]
  omega
theorem big' {n : Nat} (h : n ≤ 100000) : n < sizeLine := by
  rw [PySem.sizeLine_eq]
  omega
/-! ### names: one to eight letters -/
def IsLt (c : Nat) : Prop := 97 ≤ c ∧ c ≤ 122
def IsNm (z : Str) : Prop := 1 ≤ (TL.tl z).length ∧ (TL.tl z).length ≤ 8 ∧ ∀ c ∈ TL.tl z, IsLt c
abbrev letters : Str := "abcdefghijklmnopqrstuvwxyz"
theorem letters_get : ∀ k : Nat, k < 26 → (letters.cps.toList)[k]? = some (97 + k) := by decide +kernel
theorem letters_at {i : Int} (h0 : 0 ≤ i) (h1 : i < 26) : atI letters.cps.toList i = some (97 + i.toNat) := by
  obtain ⟨j, rfl⟩ : ∃ j : Nat, i = j := ⟨i.toNat, by omega⟩
  exact atI_nat (letters_get j (by omega))
theorem len_tl_le {z : Str} {n : Nat} (h : (TL.tl z).length ≤ n) (hn : n ≤ 100000) : z.length ≤ sizeLine := by
  rw [TL.len_tl]
  exact big (by omega)
/-- texts of one sign each, joined -/
theorem tl_joinE : ∀ ys : List Str, TL.tl (Txt.join "" ys) = (ys.map TL.tl).flatten
  | [] => by
    rw [TL.join_eq]
    rfl
  | [x] => by
    rw [TL.join_eq]
    show TL.tl x = _
    simp
  | x :: y :: r => by
    have ih := tl_joinE (y :: r)
    rw [TL.join_eq] at ih
    rw [TL.join_eq]
    show TL.tl (x ++ ("" : Str) ++ Str.join "" (y :: r)) = _
    rw [TL.tl_append, TL.tl_append, ih]
    have e : TL.tl ("" : Str) = [] := by decide +kernel
    rw [e]
    simp
theorem tl_singles (cs : List Nat) : TL.tl (Txt.join "" (cs.map fun c => (⟨#[c]⟩ : Str))) = cs := by
  rw [tl_joinE]
  induction cs with
  | nil => rfl
  | cons c r ih =>
    rw [List.map_cons, List.map_cons, List.flatten_cons, ih]
    rfl
theorem tl_cutS (z : Str) (lo hi : Option Int) : TL.tl (cutS z lo hi) = ((TL.tl z).drop (HT.sIx (TL.tl z).length 0 lo)).take (HT.sIx (TL.tl z).length (TL.tl z).length hi - HT.sIx (TL.tl z).length 0 lo) := by
  show ((z.cps.toList.drop (HT.sIx z.length 0 lo)).take (HT.sIx z.length z.length hi - HT.sIx z.length 0 lo)).toArray.toList = _
  rw [TL.len_tl]
theorem tl_cut_to (z : Str) (k : Nat) : TL.tl (cutS z none (some (k : Int))) = (TL.tl z).take k := by
  rw [tl_cutS, HT.sIx_none, HT.sIx_nat, List.drop_zero, Nat.sub_zero]
  by_cases h : k ≤ (TL.tl z).length
  · rw [Nat.min_eq_left h]
  · rw [Nat.min_eq_right (by omega), List.take_of_length_le (Nat.le_refl _), List.take_of_length_le (by omega)]
theorem tl_cut_from (z : Str) (k : Nat) : TL.tl (cutS z (some (k : Int)) none) = (TL.tl z).drop k := by
  rw [tl_cutS, HT.sIx_none, HT.sIx_nat]
  by_cases h : k ≤ (TL.tl z).length
  · rw [Nat.min_eq_left h]
    exact List.take_of_length_le (by rw [List.length_drop]; omega)
  · rw [Nat.min_eq_right (by omega), List.drop_of_length_le (Nat.le_refl _), List.drop_of_length_le (by omega)]
    simp
theorem tl_mul (z : Str) (n : Nat) (hn : 2 ≤ n) (hz : 1 ≤ (TL.tl z).length) : TL.tl (Txt.mul z (n : Int)) = (List.replicate n (TL.tl z)).flatten := by
  have h1 : ¬ ((n : Int) < 1) := by omega
  have h2 : ((n : Int) == 1 || z.length == 0) = false := by
    rw [TL.len_tl, Bool.or_eq_false_iff, beq_eq_false_iff_ne, beq_eq_false_iff_ne]
    omega
  unfold Txt.mul
  rw [if_neg h1, h2, if_neg Bool.false_ne_true, Int.toNat_natCast]
  show ((List.replicate n z.cps).foldl (· ++ ·) #[]).toList = _
  have gen : ∀ (m : Nat) (acc : Array Nat), ((List.replicate m z.cps).foldl (· ++ ·) acc).toList = acc.toList ++ (List.replicate m z.cps.toList).flatten := by
    intro m
    induction m with
    | zero => intro acc; simp
    | succ m ih =>
      intro acc
      rw [List.replicate_succ, List.foldl_cons, ih, List.replicate_succ, List.flatten_cons, Array.toList_append, List.append_assoc]
  rw [gen]
  rfl
theorem mulOk_small {z : Str} {n : Nat} (hn : n ≤ 100) (hz : (TL.tl z).length ≤ 100) : MulOk z (n : Int) := by
  have hl : z.length ≤ 100 := by rw [TL.len_tl]; exact hz
  refine ⟨?_, fun h1 h2 => ?_, fun h1 h2 => ?_⟩
  · rw [Bool.or_eq_false_iff, decide_eq_false_iff_not, decide_eq_false_iff_not]
    omega
  · have h3 : 0 < (n : Int) := by omega
    have h4 : (100 : Int) * n ≤ 2 ^ 63 - 1 := by omega
    have h5 : (100 : Int) ≤ (2 ^ 63 - 1) / n := (Int.le_ediv_iff_mul_le h3).mpr h4
    omega
  · have h6 : z.length * (n : Int).toNat ≤ 10000 := by
      rw [Int.toNat_natCast]
      exact Nat.le_trans (Nat.mul_le_mul hl hn) (by decide)
    unfold PySem.Builtin.Str.tooLong
    rw [decide_eq_false_iff_not]
    have := big (n := z.length * (n : Int).toNat) (by omega)
    omega
/-! ### lists without repeats -/
theorem len_le_of_sub {α : Type} [DecidableEq α] : ∀ {l m : List α}, l.Nodup → (∀ x ∈ l, x ∈ m) → l.length ≤ m.length
  | [], _, _, _ => Nat.zero_le _
  | x :: l, m, hn, hs => by
    have hx : x ∈ m := hs x List.mem_cons_self
    obtain ⟨h1, h2⟩ := List.nodup_cons.mp hn
    have ih := len_le_of_sub (l := l) (m := m.erase x) h2 fun y hy => (List.mem_erase_of_ne (fun e => h1 (by rw [← e]; exact hy))).mpr (hs y (List.mem_cons_of_mem _ hy))
    rw [List.length_erase_of_mem hx] at ih
    have : 0 < m.length := List.length_pos_of_mem hx
    rw [List.length_cons]
    omega
def spare (k : Nat) : Str := ⟨#[97 + k / 26, 97 + k % 26]⟩
def spares : List Str := (List.range 676).map spare
theorem spare_inj {a b : Nat} (h : spare a = spare b) : a = b := by
  have e : [97 + a / 26, 97 + a % 26] = [97 + b / 26, 97 + b % 26] := congrArg (fun z : Str => z.cps.toList) h
  injection e with e1 e2
  injection e2 with e3 _
  have h1 := Nat.div_add_mod a 26
  have h2 := Nat.div_add_mod b 26
  omega
theorem spares_len : spares.length = 676 := by
  unfold spares
  rw [List.length_map, List.length_range]
theorem spares_get {k : Nat} (h : k < 676) : spares[k]? = some (spare k) := by
  unfold spares
  rw [List.getElem?_map, List.getElem?_range h]
  rfl
theorem spare_nm {k : Nat} (h : k < 676) : IsNm (spare k) := by
  refine ⟨(by show 1 ≤ 2; decide), (by show 2 ≤ 8; decide), fun c hc => ?_⟩
  have hc' : c ∈ [97 + k / 26, 97 + k % 26] := hc
  have : k / 26 < 26 := by omega
  have : k % 26 < 26 := Nat.mod_lt _ (by decide)
  unfold IsLt
  rcases List.mem_cons.mp hc' with rfl | hc'
  · omega
  · rcases List.mem_cons.mp hc' with rfl | hc'
    · omega
    · cases hc'
theorem used_le {ns : List Str} {n : Nat} (hn : n ≤ 676) (h : ∀ j, j < n → spare j ∈ ns) : n ≤ ns.length := by
  have e : ((List.range n).map spare).length = n := by rw [List.length_map, List.length_range]
  rw [← e]
  refine len_le_of_sub ?_ fun x hx => ?_
  · exact List.pairwise_map.mpr (List.Pairwise.imp (fun hne he => hne (spare_inj he)) List.nodup_range)
  · obtain ⟨j, hj, rfl⟩ := List.mem_map.mp hx
    exact h j (List.mem_range.mp hj)
/-! ### woods: the first tree's name, what is in it, the other trees -/
inductive Wd where
  | nil
  | cons (n : Str) (i r : Wd)
namespace Wd
def tops : Wd → List Str
  | nil => []
  | cons n _ r => n :: r.tops
def names : Wd → List Str
  | nil => []
  | cons n i r => n :: (i.names ++ r.names)
def app : Wd → Wd → Wd
  | nil, v => v
  | cons n i r, v => cons n i (r.app v)
def take : Nat → Wd → Wd
  | 0, _ => nil
  | _ + 1, nil => nil
  | k + 1, cons n i r => cons n i (take k r)
def drop : Nat → Wd → Wd
  | 0, w => w
  | _ + 1, nil => nil
  | k + 1, cons _ _ r => drop k r
/-- a new tree at a, over t trees -/
def grp (a t : Nat) (nm : Str) (w : Wd) : Wd := (take a w).app (cons nm (take t (drop a w)) (drop t (drop a w)))
def upd (k : Str) (f : Wd → Wd) : Wd → Wd
  | nil => nil
  | cons n i r => if n = k then cons n (f i) r else cons n (upd k f i) (upd k f r)
def sub (k : Str) : Wd → Option Wd
  | nil => none
  | cons n i r => if n = k then some i else match sub k i with
    | some x => some x
    | none => sub k r
def size : Wd → Nat
  | nil => 0
  | cons _ i r => i.size + r.size + 1
theorem size_names : ∀ w : Wd, w.names.length = w.size
  | nil => rfl
  | cons n i r => by
    show (n :: (i.names ++ r.names)).length = i.size + r.size + 1
    rw [List.length_cons, List.length_append, size_names i, size_names r]
/-- the ends of a wood: true: the begin -/
def toks : Wd → List (Bool × Str)
  | nil => []
  | cons n i r => (true, n) :: (i.toks ++ (false, n) :: r.toks)
theorem toks_len : ∀ w : Wd, w.toks.length = 2 * w.size
  | nil => rfl
  | cons n i r => by
    show ((true, n) :: (i.toks ++ (false, n) :: r.toks)).length = 2 * (i.size + r.size + 1)
    rw [List.length_cons, List.length_append, List.length_cons, toks_len i, toks_len r]
    omega
theorem toks_mem : ∀ {w : Wd} {p : Bool × Str}, p ∈ w.toks → p.2 ∈ w.names
  | cons n i r, p, h => by
    have h' : p ∈ (true, n) :: (i.toks ++ (false, n) :: r.toks) := h
    rcases List.mem_cons.mp h' with rfl | h
    · exact List.mem_cons_self
    · rcases List.mem_append.mp h with h | h
      · exact List.mem_cons_of_mem _ (List.mem_append_left _ (toks_mem h))
      · rcases List.mem_cons.mp h with rfl | h
        · exact List.mem_cons_self
        · exact List.mem_cons_of_mem _ (List.mem_append_right _ (toks_mem h))
/-- the data of its trees -/
def data : Wd → List PyData
  | nil => []
  | cons n i r => .tuple [.str n, .tuple i.data] :: r.data
end Wd
def tkS (p : Bool × Str) : Str := if p.1 = true then ("+" : Str) ++ p.2 else ("-" : Str) ++ p.2
def Wd.put (k : Str) (a t : Nat) (nm : Str) (w : Wd) : Wd := if k = "" then w.grp a t nm else w.upd k (Wd.grp a t nm)
def Wd.inn (k : Str) (w : Wd) : Option Wd := if k = "" then some w else w.sub k
theorem nm_ne {z : Str} (h : IsNm z) : z ≠ "" := by
  rintro rfl
  exact absurd h.1 (by decide +kernel)
theorem tl_tk (p : Bool × Str) : TL.tl (tkS p) = (if p.1 = true then 43 else 45) :: TL.tl p.2 := by
  unfold tkS
  split
  · rw [TL.tl_append]
    rfl
  · rw [TL.tl_append]
    rfl
theorem tk_at0 (p : Bool × Str) : atI (tkS p).cps.toList 0 = some (if p.1 = true then 43 else 45) := by
  show atI (TL.tl (tkS p)) 0 = _
  rw [tl_tk]
  exact atI_nat (j := 0) rfl
theorem tk_cut (p : Bool × Str) : cutS (tkS p) (some 1) none = p.2 := by
  apply TL.ext_tl
  have e := tl_cut_from (tkS p) 1
  rw [tl_tk] at e
  exact e
/-! ### places of the ends in a row -/
theorem toks_names2 (b : Bool) : ∀ (w : Wd) (n : Str), (b, n) ∈ w.toks ↔ n ∈ w.names
  | .nil, n => ⟨(fun h => nomatch h), (fun h => nomatch h)⟩
  | .cons m i r, n => by
    show (b, n) ∈ (true, m) :: (i.toks ++ (false, m) :: r.toks) ↔ n ∈ m :: (i.names ++ r.names)
    rw [List.mem_cons, List.mem_append, List.mem_cons, List.mem_cons, List.mem_append, toks_names2 b i n, toks_names2 b r n]
    cases b with
    | true =>
      constructor
      · rintro (h | h | h | h)
        · exact .inl (Prod.mk.inj h).2
        · exact .inr (.inl h)
        · exact nomatch (Prod.mk.inj h).1
        · exact .inr (.inr h)
      · rintro (h | h | h)
        · exact .inl (by rw [h])
        · exact .inr (.inl h)
        · exact .inr (.inr (.inr h))
    | false =>
      constructor
      · rintro (h | h | h | h)
        · exact nomatch (Prod.mk.inj h).1
        · exact .inr (.inl h)
        · exact .inl (Prod.mk.inj h).2
        · exact .inr (.inr h)
      · rintro (h | h | h)
        · exact .inr (.inr (.inl (by rw [h])))
        · exact .inr (.inl h)
        · exact .inr (.inr (.inr h))
theorem toks_nodup : ∀ {w : Wd}, w.names.Nodup → w.toks.Nodup
  | .nil, _ => List.nodup_nil
  | .cons m i r, nd => by
    have nd' : (m :: (i.names ++ r.names)).Nodup := nd
    rw [List.nodup_cons] at nd'
    have nda := List.nodup_append.mp nd'.2
    have ni : m ∉ i.names := fun h => nd'.1 (List.mem_append_left _ h)
    have nr : m ∉ r.names := fun h => nd'.1 (List.mem_append_right _ h)
    show ((true, m) :: (i.toks ++ (false, m) :: r.toks)).Nodup
    rw [List.nodup_cons, List.nodup_append, List.nodup_cons]
    refine ⟨fun h => ?_, toks_nodup nda.1, ⟨fun h => nr ((toks_names2 _ _ _).mp h), toks_nodup nda.2.1⟩, fun x hx y hy e => ?_⟩
    · rcases List.mem_append.mp h with h | h
      · exact ni ((toks_names2 _ _ _).mp h)
      · rcases List.mem_cons.mp h with h | h
        · exact nomatch (Prod.mk.inj h).1
        · exact nr ((toks_names2 _ _ _).mp h)
    · subst e
      obtain ⟨b, n⟩ := x
      have h1 := (toks_names2 _ _ _).mp hx
      rcases List.mem_cons.mp hy with h | h
      · exact ni (by rw [← (Prod.mk.inj h).2]; exact h1)
      · exact nda.2.2 _ h1 _ ((toks_names2 _ _ _).mp h) rfl
/-! ### loops, by what holds at each round -/
theorem lcM_inv {kd : Dt → A} {rd : Env → Option (List Dt)} {xs0 : List Dt} {te : List A} {g : MG} {tt : MT} {el : ME} {vs : List Nat} (I : List Dt → List Dt → Env → Prop) (hr : ∀ r acc e, I r acc e → rd e = some xs0)
    (step : ∀ x r acc e, I (x :: r) acc e → ∃ e1, g (kd x) e (.own (.l acc) :: te) = some e1 ∧ ∃ b e2, tt e1 (.own (.l acc) :: te) = .ok b e2 ∧
      (b = true → ∃ y e3, el e2 (.own (.l acc) :: te) = .ok (.d y) e3 ∧ acc.length < sizeLine ∧ wipeOk e3 (.own (.l (acc ++ [y])) :: te) vs = true ∧ I r (acc ++ [y]) (wipeE e3 vs)) ∧
      (b = false → wipeOk e2 (.own (.l acc) :: te) vs = true ∧ I r acc (wipeE e2 vs))) : ∀ r acc e, I r acc e → ∃ ys e', lcM kd rd xs0 te g tt el vs r acc e = .ok ys e' ∧ I [] ys e'
  | [], acc, e, h => ⟨acc, e, by unfold lcM; rw [if_pos (hr _ _ _ h)], h⟩
  | x :: r, acc, e, h => by
    obtain ⟨e1, h1, b, e2, h2, ht, hf⟩ := step x r acc e h
    cases b with
    | true =>
      obtain ⟨y, e3, h3, hl, hw, hi⟩ := ht rfl
      obtain ⟨ys, e', h4, h5⟩ := lcM_inv I hr step r _ _ hi
      refine ⟨ys, e', ?_, h5⟩
      unfold lcM
      rw [if_pos (hr _ _ _ h), h1]
      show ((tt e1 (.own (.l acc) :: te)).noX.bind _) = _
      rw [h2]
      show ((el e2 (.own (.l acc) :: te)).noX.bind _) = _
      rw [h3]
      show (if acc.length < sizeLine ∧ wipeOk e3 (.own (.l (acc ++ [y])) :: te) vs = true then _ else _) = _
      rw [if_pos ⟨hl, hw⟩]
      exact h4
    | false =>
      obtain ⟨hw, hi⟩ := hf rfl
      obtain ⟨ys, e', h4, h5⟩ := lcM_inv I hr step r _ _ hi
      refine ⟨ys, e', ?_, h5⟩
      unfold lcM
      rw [if_pos (hr _ _ _ h), h1]
      show ((tt e1 (.own (.l acc) :: te)).noX.bind _) = _
      rw [h2]
      show (if wipeOk e2 (.own (.l acc) :: te) vs = true then _ else _) = _
      rw [if_pos hw]
      exact h4
end Tw

namespace Tw
open PySem PySem.Spec PyProof.Rows L2
theorem ev_mVar (i : Nat) (env : Env) (_u1 : _) : mVar i env _u1 = (match env[i]? with
  | some (some a) => .ok (vA i a) env
  | _ => .bad) := rfl
theorem ev_mC (x : Dt) (env : Env) (_u1 : _) : mC x env _u1 = (.ok (.d x) env) := rfl
theorem ev_mNil (env : Env) (_u1 : _) : mNil env _u1 = (.ok [] env) := rfl
def k_mCons_1 (a : A) : List A → Env → Rs (List A) := fun as e2 => .ok (a :: as) e2
theorem ek_mCons_1 (a : A) (as : List A) (e2 : Env) : k_mCons_1 a as e2 = (.ok (a :: as) e2 : Rs (List A)) := rfl
def k_mCons_0 (r : MA) (te : List A) : A → Env → Rs (List A) := fun a e1 => (r e1 (a :: te)).bind (k_mCons_1 a)
theorem ek_mCons_0 (r : MA) (te : List A) (a : A) (e1 : Env) : k_mCons_0 r te a e1 = ((r e1 (a :: te)).bind (k_mCons_1 a) : Rs (List A)) := rfl
theorem ev_mCons (m : ME) (r : MA) (env : Env) (te : List A) : mCons m r env te = ((m env te).bind (k_mCons_0 r te)) := rfl
def k_mD_0 (te : List A) : A → Env → Rs A := fun a e => match frzA a e te with
  | some (x, e') => .ok (.d x) e'
  | none => .bad
theorem ek_mD_0 (te : List A) (a : A) (e : Env) : k_mD_0 te a e = (match frzA a e te with
  | some (x, e') => .ok (.d x) e'
  | none => .bad : Rs A) := rfl
theorem ev_mD (m : ME) (env : Env) (te : List A) : mD m env te = ((m env te).bind (k_mD_0 te)) := rfl
def k_mOp_1 (f : Env → A → A → Rs A) (a : A) : A → Env → Rs A := fun b e2 => f e2 a b
theorem ek_mOp_1 (f : Env → A → A → Rs A) (a : A) (b : A) (e2 : Env) : k_mOp_1 f a b e2 = (f e2 a b : Rs A) := rfl
def k_mOp_0 (f : Env → A → A → Rs A) (mb : ME) (te : List A) : A → Env → Rs A := fun a e1 => (mb e1 (a :: te)).bind (k_mOp_1 f a)
theorem ek_mOp_0 (f : Env → A → A → Rs A) (mb : ME) (te : List A) (a : A) (e1 : Env) : k_mOp_0 f mb te a e1 = ((mb e1 (a :: te)).bind (k_mOp_1 f a) : Rs A) := rfl
theorem ev_mOp (f : Env → A → A → Rs A) (ma mb : ME) (env : Env) (te : List A) : mOp f ma mb env te = ((ma env te).bind (k_mOp_0 f mb te)) := rfl
def k_mU_0 (f : Env → A → Rs A) : A → Env → Rs A := fun a e1 => f e1 a
theorem ek_mU_0 (f : Env → A → Rs A) (a : A) (e1 : Env) : k_mU_0 f a e1 = (f e1 a : Rs A) := rfl
theorem ev_mU (f : Env → A → Rs A) (ma : ME) (env : Env) (te : List A) : mU f ma env te = ((ma env te).bind (k_mU_0 f)) := rfl
def k_mCB_0 (f : Env → List A → Rs A) : List A → Env → Rs A := fun as e => f e as
theorem ek_mCB_0 (f : Env → List A → Rs A) (as : List A) (e : Env) : k_mCB_0 f as e = (f e as : Rs A) := rfl
theorem ev_mCB (f : Env → List A → Rs A) (m : MA) (env : Env) (te : List A) : mCB f m env te = ((m env te).bind (k_mCB_0 f)) := rfl
theorem ev_fl2 (g : Dt → Dt → Option Dt) (env : Env) (a : A) (b : A) : fl2 g env a b = (match a.val env, b.val env with
  | some x, some y => match g x y with
    | some z => .ok (.d z) env
    | none => .bad
  | _, _ => .bad) := rfl
theorem ev_fl1 (g : Dt → Option Dt) (env : Env) (a : A) : fl1 g env a = (match a.val env with
  | some x => match g x with
    | some z => .ok (.d z) env
    | none => .bad
  | none => .bad) := rfl
theorem ev_mTst (m : ME) (env : Env) (te : List A) : mTst m env te = ((m env te).bind tstA) := rfl
def k_mAnd_0 (b : MT) (te : List A) : Bool → Env → Rs Bool := fun c e => if c = true then b e te else .ok false e
theorem ek_mAnd_0 (b : MT) (te : List A) (c : Bool) (e : Env) : k_mAnd_0 b te c e = (if c = true then b e te else .ok false e : Rs Bool) := rfl
theorem ev_mAnd (a b : MT) (env : Env) (te : List A) : mAnd a b env te = ((a env te).bind (k_mAnd_0 b te)) := rfl
def k_mOr_0 (b : MT) (te : List A) : Bool → Env → Rs Bool := fun c e => if c = true then .ok true e else b e te
theorem ek_mOr_0 (b : MT) (te : List A) (c : Bool) (e : Env) : k_mOr_0 b te c e = (if c = true then .ok true e else b e te : Rs Bool) := rfl
theorem ev_mOr (a b : MT) (env : Env) (te : List A) : mOr a b env te = ((a env te).bind (k_mOr_0 b te)) := rfl
def k_mNot_0 : Bool → Env → Rs Bool := fun c e => .ok (!c) e
theorem ek_mNot_0 (c : Bool) (e : Env) : k_mNot_0  c e = (.ok (!c) e : Rs Bool) := rfl
theorem ev_mNot (a : MT) (env : Env) (te : List A) : mNot a env te = ((a env te).bind (k_mNot_0)) := rfl
theorem ev_mYes (env : Env) (_u1 : _) : mYes env _u1 = (.ok true env) := rfl
def k_mIfE_0 (a : ME) (b : ME) (te : List A) : Bool → Env → Rs A := fun x e => if x = true then a e te else b e te
theorem ek_mIfE_0 (a : ME) (b : ME) (te : List A) (x : Bool) (e : Env) : k_mIfE_0 a b te x e = (if x = true then a e te else b e te : Rs A) := rfl
theorem ev_mIfE (c : MT) (a b : ME) (env : Env) (te : List A) : mIfE c a b env te = ((c env te).bind (k_mIfE_0 a b te)) := rfl
def k_mAndE_0 (b : ME) (te : List A) : Bool → Env → Rs A := fun c e => if c = true then b e te else .ok (.d (.bool false)) e
theorem ek_mAndE_0 (b : ME) (te : List A) (c : Bool) (e : Env) : k_mAndE_0 b te c e = (if c = true then b e te else .ok (.d (.bool false)) e : Rs A) := rfl
theorem ev_mAndE (a b : ME) (env : Env) (te : List A) : mAndE a b env te = ((mTst a env te).bind (k_mAndE_0 b te)) := rfl
def k_mOrE_0 (b : ME) (te : List A) : Bool → Env → Rs A := fun c e => if c = true then .ok (.d (.bool true)) e else b e te
theorem ek_mOrE_0 (b : ME) (te : List A) (c : Bool) (e : Env) : k_mOrE_0 b te c e = (if c = true then .ok (.d (.bool true)) e else b e te : Rs A) := rfl
theorem ev_mOrE (a b : ME) (env : Env) (te : List A) : mOrE a b env te = ((mTst a env te).bind (k_mOrE_0 b te)) := rfl
def k_mNotE_0 : Bool → Env → Rs A := fun c e => .ok (.d (.bool (!c))) e
theorem ek_mNotE_0 (c : Bool) (e : Env) : k_mNotE_0  c e = (.ok (.d (.bool (!c))) e : Rs A) := rfl
theorem ev_mNotE (a : ME) (env : Env) (te : List A) : mNotE a env te = ((mTst a env te).bind (k_mNotE_0)) := rfl
theorem ev_gN (i : Nat) (a : A) (env : Env) (te : List A) : gN i a env te = (if setOk i a env te = true then some (env.set i (some a)) else none) := rfl
theorem ev_gT (is : List Nat) (a : A) (env : Env) (te : List A) : gT is a env te = (match a.tup? with
  | some xs => gTs is xs env te
  | none => none) := rfl
def k_mAsg_0 (g : MG) (te : List A) : A → Env → Fl := fun a e => match g a e te with
  | some e' => .nx e'
  | none => .bad
theorem ek_mAsg_0 (g : MG) (te : List A) (a : A) (e : Env) : k_mAsg_0 g te a e = (match g a e te with
  | some e' => .nx e'
  | none => .bad : Fl) := rfl
theorem ev_mAsg (m : ME) (g : MG) (env : Env) (te : List A) : mAsg m g env te = ((m env te).fl (k_mAsg_0 g te)) := rfl
def k_mDrop_0 : A → Env → Fl := fun _v e => .nx e
theorem ek_mDrop_0 (_v : A) (e : Env) : k_mDrop_0  _v e = (.nx e : Fl) := rfl
theorem ev_mDrop (m : ME) (env : Env) (te : List A) : mDrop m env te = ((m env te).fl (k_mDrop_0)) := rfl
def k_mIfS_0 (a : MS) (b : MS) (te : List A) : Bool → Env → Fl := fun x e => if x = true then a e te else b e te
theorem ek_mIfS_0 (a : MS) (b : MS) (te : List A) (x : Bool) (e : Env) : k_mIfS_0 a b te x e = (if x = true then a e te else b e te : Fl) := rfl
theorem ev_mIfS (c : MT) (a b : MS) (env : Env) (te : List A) : mIfS c a b env te = ((c env te).fl (k_mIfS_0 a b te)) := rfl
def k_mRet_0 : A → Env → Fl := fun a e => .rt a e
theorem ek_mRet_0 (a : A) (e : Env) : k_mRet_0  a e = (.rt a e : Fl) := rfl
theorem ev_mRet (m : ME) (env : Env) (te : List A) : mRet m env te = ((m env te).fl (k_mRet_0)) := rfl
theorem ev_mRetN (env : Env) (_u1 : _) : mRetN env _u1 = (.rt (.d .none) env) := rfl
theorem ev_mNext (env : Env) (_u1 : _) : mNext env _u1 = (.nx env) := rfl
theorem ev_mBrk (env : Env) (_u1 : _) : mBrk env _u1 = (.bk env) := rfl
theorem ev_mCt (env : Env) (_u1 : _) : mCt env _u1 = (.ct env) := rfl
theorem ev_mNever (_u0 : _) (_u1 : _) : mNever _u0 _u1 = (.bad) := rfl
def k_mCall_0 (f : DF) (io : List Bool) (te : List A) : List A → Env → Rs A := fun as e => match cvAs io as e with
  | some L => doCall f e te L
  | none => .bad
theorem ek_mCall_0 (f : DF) (io : List Bool) (te : List A) (as : List A) (e : Env) : k_mCall_0 f io te as e = (match cvAs io as e with
  | some L => doCall f e te L
  | none => .bad : Rs A) := rfl
theorem ev_mCall (f : DF) (io : List Bool) (m : MA) (env : Env) (te : List A) : mCall f io m env te = ((m env te).bind (k_mCall_0 f io te)) := rfl
open Classical in
theorem ev_addA (env : Env) (a : A) (b : A) : addA env a b = (match d2 env a b with
  | some (.int i, .int j) => .ok (.d (.int (i + j))) env
  | some (.str x, .str y) => if x.length + y.length ≤ sizeLine then .ok (.d (.str (x ++ y))) env else .bad
  | some (.tuple xs, .tuple ys) => if xs.length + ys.length ≤ sizeLine then .ok (.d (.tuple (xs ++ ys))) env else .bad
  | some (.list _, .list _) => (match a.lstT? env, b.lstT? env with
    | some xs, some ys => if xs.length + ys.length ≤ sizeLine then .ok (.own (.l (xs ++ ys))) env else .bad
    | _, _ => .bad)
  | _ => .bad) := rfl
open Classical in
theorem ev_mulA (env : Env) (a : A) (b : A) : mulA env a b = (match d2 env a b with
  | some (.int i, .int j) => if CMul i j then .ok (.d (.int (i * j))) env else .bad
  | some (.str x, .int n) => if MulOk x n ∧ (Txt.mul x n).length ≤ sizeLine then .ok (.d (.str (Txt.mul x n))) env else .bad
  | some (.list _, .int n) => (match a.lstT? env with
    | some xs => if -(2 ^ 63) ≤ n ∧ n < 2 ^ 63 ∧ xs.length * n.toNat ≤ sizeLine then .ok (.own (.l (List.replicate n.toNat xs).flatten)) env else .bad
    | none => .bad)
  | _ => .bad) := rfl
def k_mTup_0 : List A → Env → Rs A := fun as e => match dAll as with
  | some xs => if xs.length ≤ sizeLine then .ok (.d (.tuple xs)) e else .bad
  | none => .bad
theorem ek_mTup_0 (as : List A) (e : Env) : k_mTup_0  as e = (match dAll as with
  | some xs => if xs.length ≤ sizeLine then .ok (.d (.tuple xs)) e else .bad
  | none => .bad : Rs A) := rfl
theorem ev_mTup (m : MA) (env : Env) (te : List A) : mTup m env te = ((m env te).bind (k_mTup_0)) := rfl
def k_mLst_0 : List A → Env → Rs A := fun as e => match dAll as with
  | some xs => if xs.length ≤ sizeLine then .ok (.own (.l xs)) e else .bad
  | none => .bad
theorem ek_mLst_0 (as : List A) (e : Env) : k_mLst_0  as e = (match dAll as with
  | some xs => if xs.length ≤ sizeLine then .ok (.own (.l xs)) e else .bad
  | none => .bad : Rs A) := rfl
theorem ev_mLst (m : MA) (env : Env) (te : List A) : mLst m env te = ((m env te).bind (k_mLst_0)) := rfl
theorem ev_ixA (env : Env) (a : A) (b : A) : ixA env a b = (match b.val env with
  | some (.int i) => (match a.tup? with
    | some xs => (match atI xs i with
      | some x => .ok (.d x) env
      | none => .bad)
    | none => match a.lst? env with
      | some xs => (match atI xs i with
        | some x => .ok (.d x) env
        | none => .bad)
      | none => match a.val env with
        | some (.str z) => (match atI z.cps.toList i with
          | some c => .ok (.d (.str ⟨#[c]⟩)) env
          | none => .bad)
        | _ => match a with
          | .rf j none => (match owAt env j with
            | some (.ll xss) => (match ixN xss.length i with
              | some n => .ok (.rf j (some (.inl n))) env
              | none => .bad)
            | _ => .bad)
          | _ => .bad)
  | _ => .bad) := rfl
theorem ev_mNoPart (env : Env) (_u1 : _) : mNoPart env _u1 = (.ok none env) := rfl
def k_mPart_0 : A → Env → Rs (Option Int) := fun a e => match a.val e with
  | some (.int i) => .ok (some i) e
  | _ => .bad
theorem ek_mPart_0 (a : A) (e : Env) : k_mPart_0  a e = (match a.val e with
  | some (.int i) => .ok (some i) e
  | _ => .bad : Rs (Option Int)) := rfl
theorem ev_mPart (m : ME) (env : Env) (te : List A) : mPart m env te = ((m env te).bind (k_mPart_0)) := rfl
def k_mSl_2 (a : A) (l : Option Int) : Option Int → Env → Rs A := fun u e3 => slA e3 a l u
theorem ek_mSl_2 (a : A) (l : Option Int) (u : Option Int) (e3 : Env) : k_mSl_2 a l u e3 = (slA e3 a l u : Rs A) := rfl
def k_mSl_1 (hi : MO) (te : List A) (a : A) : Option Int → Env → Rs A := fun l e2 => (hi e2 (a :: te)).bind (k_mSl_2 a l)
theorem ek_mSl_1 (hi : MO) (te : List A) (a : A) (l : Option Int) (e2 : Env) : k_mSl_1 hi te a l e2 = ((hi e2 (a :: te)).bind (k_mSl_2 a l) : Rs A) := rfl
def k_mSl_0 (lo : MO) (hi : MO) (te : List A) : A → Env → Rs A := fun a e1 => (lo e1 (a :: te)).bind (k_mSl_1 hi te a)
theorem ek_mSl_0 (lo : MO) (hi : MO) (te : List A) (a : A) (e1 : Env) : k_mSl_0 lo hi te a e1 = ((lo e1 (a :: te)).bind (k_mSl_1 hi te a) : Rs A) := rfl
theorem ev_mSl (m : ME) (lo hi : MO) (env : Env) (te : List A) : mSl m lo hi env te = ((m env te).bind (k_mSl_0 lo hi te)) := rfl
theorem ev_one (f : Env → A → Rs A) (env : Env) (as : List A) : one f env as = (match as with
  | [a] => f env a
  | _ => .bad) := rfl
theorem ev_lenA (env : Env) (a : A) : lenA env a = (match a.lst? env with
  | some xs => .ok (.d (.int xs.length)) env
  | none => match a.val env with
    | some x => (match lenD x with
      | some n => .ok (.d (.int n)) env
      | none => .bad)
    | none => .bad) := rfl
theorem ev_tupA (env : Env) (a : A) : tupA env a = (match a with
  | .d (.tuple xs) => .ok (.d (.tuple xs)) env
  | a => match a.lst? env with
    | some xs => .ok (.d (.tuple xs)) env
    | none => .bad) := rfl
theorem ev_lstA (env : Env) (a : A) : lstA env a = (match a.tup? with
  | some xs => .ok (.own (.l xs)) env
  | none => match a.lst? env with
    | some xs => .ok (.own (.l xs)) env
    | none => .bad) := rfl
theorem ev_allA (env : Env) (a : A) : allA env a = (match (a.lst? env).bind boolsD with
  | some bs => .ok (.d (.bool (bs.all id))) env
  | none => .bad) := rfl
theorem ev_anyA (env : Env) (a : A) : anyA env a = (match (a.lst? env).bind boolsD with
  | some bs => .ok (.d (.bool (bs.any id))) env
  | none => .bad) := rfl
def k_mIsi_0 (T : String) : A → Env → Rs A := fun a e => match a.val e with
  | some x => (match kitB (tyD x) T with
    | some b => .ok (.d (.bool b)) e
    | none => .bad)
  | none => .bad
theorem ek_mIsi_0 (T : String) (a : A) (e : Env) : k_mIsi_0 T a e = (match a.val e with
  | some x => (match kitB (tyD x) T with
    | some b => .ok (.d (.bool b)) e
    | none => .bad)
  | none => .bad : Rs A) := rfl
theorem ev_mIsi (T : String) (m : ME) (env : Env) (te : List A) : mIsi T m env te = ((m env te).bind (k_mIsi_0 T)) := rfl
theorem ev_min2A (env : Env) (as : List A) : min2A env as = (match as with
  | [.d (.int i), .d (.int j)] => .ok (.d (.int (if j < i then j else i))) env
  | _ => .bad) := rfl
theorem ev_max2A (env : Env) (as : List A) : max2A env as = (match as with
  | [.d (.int i), .d (.int j)] => .ok (.d (.int (if j > i then j else i))) env
  | _ => .bad) := rfl
def k_mJoin_0 (mb : ME) (te : List A) : A → Env → Rs A := fun a e => match a with
  | .d (.str s) => (mb e (.d (.str s) :: te)).bind fun b e2 => joinS s e2 b
  | _ => .bad
theorem ek_mJoin_0 (mb : ME) (te : List A) (a : A) (e : Env) : k_mJoin_0 mb te a e = (match a with
  | .d (.str s) => (mb e (.d (.str s) :: te)).bind fun b e2 => joinS s e2 b
  | _ => .bad : Rs A) := rfl
theorem ev_mJoin (ma mb : ME) (env : Env) (te : List A) : mJoin ma mb env te = ((ma env te).bind (k_mJoin_0 mb te)) := rfl
def k_mMeth_0 (f : Env → List A → A → List A → Rs A) (ma : MA) (te : List A) : A → Env → Rs A := fun o e1 => if isL e1 o = true then (ma e1 (o :: te)).bind fun as e2 => f e2 te o as else .bad
theorem ek_mMeth_0 (f : Env → List A → A → List A → Rs A) (ma : MA) (te : List A) (o : A) (e1 : Env) : k_mMeth_0 f ma te o e1 = (if isL e1 o = true then (ma e1 (o :: te)).bind fun as e2 => f e2 te o as else .bad : Rs A) := rfl
theorem ev_mMeth (f : Env → List A → A → List A → Rs A) (mo : ME) (ma : MA) (env : Env) (te : List A) : mMeth f mo ma env te = ((mo env te).bind (k_mMeth_0 f ma te)) := rfl
theorem ev_appA (e : Env) (te : List A) (o : A) (as : List A) : appA e te o as = (match dAll as with
  | some [y] => mutL e te o fun xs => if xs.length < sizeLine then some (.none, xs ++ [y]) else none
  | _ => .bad) := rfl
theorem ev_extA (e : Env) (te : List A) (o : A) (as : List A) : extA e te o as = (match dAll as with
  | some [y] => (match seqD y with
    | some zs => mutL e te o fun xs => if xs.length + zs.length ≤ sizeLine then some (.none, xs ++ zs) else none
    | none => .bad)
  | _ => .bad) := rfl
theorem ev_insA (e : Env) (te : List A) (o : A) (as : List A) : insA e te o as = (match dAll as with
  | some [.int i, y] => mutL e te o fun xs => if xs.length < sizeLine ∧ 0 ≤ i ∧ i < 2 ^ 63 then some (.none, xs.take i.toNat ++ [y] ++ xs.drop i.toNat) else none
  | _ => .bad) := rfl
theorem ev_popA (e : Env) (te : List A) (o : A) (as : List A) : popA e te o as = (match as with
  | [] => mutL e te o fun xs => match xs[xs.length - 1]? with
    | some y => some (y, xs.dropLast)
    | none => none
  | _ => .bad) := rfl
theorem ev_popAtA (e : Env) (te : List A) (o : A) (as : List A) : popAtA e te o as = (match dAll as with
  | some [.int i] => mutL e te o fun xs => if -(2 ^ 63) ≤ i ∧ i < 2 ^ 63 then (match seqIndex? i xs.length with
    | some k => (match xs[k]? with
      | some y => some (y, xs.eraseIdx k)
      | none => none)
    | none => none) else none
  | _ => .bad) := rfl
def k_mTix_0 (mb : ME) (te : List A) : A → Env → Rs A := fun a e1 => match a with
  | .d (.tuple xs) => (mb e1 (a :: te)).bind fun b e2 => tixA e2 a b
  | _ => .bad
theorem ek_mTix_0 (mb : ME) (te : List A) (a : A) (e1 : Env) : k_mTix_0 mb te a e1 = (match a with
  | .d (.tuple xs) => (mb e1 (a :: te)).bind fun b e2 => tixA e2 a b
  | _ => .bad : Rs A) := rfl
theorem ev_mTix (ma mb : ME) (env : Env) (te : List A) : mTix ma mb env te = ((ma env te).bind (k_mTix_0 mb te)) := rfl
def k_mSetL_2 (te : List A) (a : A) (e : Env) (o : A) : A → Env → Fl := fun b e2 => match setLA e2 te o b a with
  | some e' => .nx e'
  | none => .bad
theorem ek_mSetL_2 (te : List A) (a : A) (e : Env) (o : A) (b : A) (e2 : Env) : k_mSetL_2 te a e o b e2 = (match setLA e2 te o b a with
  | some e' => .nx e'
  | none => .bad : Fl) := rfl
def k_mSetL_1 (mi : ME) (te : List A) (a : A) (e : Env) : A → Env → Fl := fun o e1 => (mi e1 (o :: a :: te)).fl (k_mSetL_2 te a e o)
theorem ek_mSetL_1 (mi : ME) (te : List A) (a : A) (e : Env) (o : A) (e1 : Env) : k_mSetL_1 mi te a e o e1 = ((mi e1 (o :: a :: te)).fl (k_mSetL_2 te a e o) : Fl) := rfl
def k_mSetL_0 (mo : ME) (mi : ME) (te : List A) : A → Env → Fl := fun a e => (mo e (a :: te)).fl (k_mSetL_1 mi te a e)
theorem ek_mSetL_0 (mo : ME) (mi : ME) (te : List A) (a : A) (e : Env) : k_mSetL_0 mo mi te a e = ((mo e (a :: te)).fl (k_mSetL_1 mi te a e) : Fl) := rfl
theorem ev_mSetL (mv mo mi : ME) (env : Env) (te : List A) : mSetL mv mo mi env te = ((mv env te).fl (k_mSetL_0 mo mi te)) := rfl
def k_mSeqI_0 (env : Env) : A → Env → Rs (List A × (Env → Option (List Dt))) := fun a e => match a.seq? e with
  | some _ => .ok ([a], fun env => a.seq? env) e
  | none => .bad
theorem ek_mSeqI_0 (env : Env) (a : A) (e : Env) : k_mSeqI_0 env a e = (match a.seq? e with
  | some _ => .ok ([a], fun env => a.seq? env) e
  | none => .bad : Rs (List A × (Env → Option (List Dt)))) := rfl
theorem ev_mSeqI (m : ME) (env : Env) (te : List A) : mSeqI m env te = (((m env te).bind (k_mSeqI_0 env) : Rs (List A × (Env → Option (List Dt))))) := rfl
def k_mRng1_0 : A → Env → Rs (List A × (Env → Option (List Dt))) := fun a e => match a with
  | .d (.int j) => if -(2 ^ 62) ≤ j ∧ j < 2 ^ 62 then .ok ([], fun _ => some (intsD 0 j.toNat)) e else .bad
  | _ => .bad
theorem ek_mRng1_0 (a : A) (e : Env) : k_mRng1_0  a e = (match a with
  | .d (.int j) => if -(2 ^ 62) ≤ j ∧ j < 2 ^ 62 then .ok ([], fun _ => some (intsD 0 j.toNat)) e else .bad
  | _ => .bad : Rs (List A × (Env → Option (List Dt)))) := rfl
theorem ev_mRng1 (m : ME) (env : Env) (te : List A) : mRng1 m env te = (((m env te).bind (k_mRng1_0) : Rs (List A × (Env → Option (List Dt))))) := rfl
def k_mRng2_1 (a : A) : A → Env → Rs (List A × (Env → Option (List Dt))) := fun b e2 => match a, b with
  | .d (.int i), .d (.int j) => if -(2 ^ 62) ≤ i ∧ i < 2 ^ 62 ∧ -(2 ^ 62) ≤ j ∧ j < 2 ^ 62 then .ok ([], fun _ => some (intsD i (j - i).toNat)) e2 else .bad
  | _, _ => .bad
theorem ek_mRng2_1 (a : A) (b : A) (e2 : Env) : k_mRng2_1 a b e2 = (match a, b with
  | .d (.int i), .d (.int j) => if -(2 ^ 62) ≤ i ∧ i < 2 ^ 62 ∧ -(2 ^ 62) ≤ j ∧ j < 2 ^ 62 then .ok ([], fun _ => some (intsD i (j - i).toNat)) e2 else .bad
  | _, _ => .bad : Rs (List A × (Env → Option (List Dt)))) := rfl
def k_mRng2_0 (mb : ME) (te : List A) : A → Env → Rs (List A × (Env → Option (List Dt))) := fun a e => (mb e (a :: te)).bind (k_mRng2_1 a)
theorem ek_mRng2_0 (mb : ME) (te : List A) (a : A) (e : Env) : k_mRng2_0 mb te a e = ((mb e (a :: te)).bind (k_mRng2_1 a) : Rs (List A × (Env → Option (List Dt)))) := rfl
theorem ev_mRng2 (ma mb : ME) (env : Env) (te : List A) : mRng2 ma mb env te = (((ma env te).bind (k_mRng2_0 mb te) : Rs (List A × (Env → Option (List Dt))))) := rfl
def k_mEnT_0 : A → Env → Rs (List A × (Env → Option (List Dt))) := fun a e => match a.tup? with
  | some xs => .ok ([a], fun _ => some (enumD xs)) e
  | none => .bad
theorem ek_mEnT_0 (a : A) (e : Env) : k_mEnT_0  a e = (match a.tup? with
  | some xs => .ok ([a], fun _ => some (enumD xs)) e
  | none => .bad : Rs (List A × (Env → Option (List Dt)))) := rfl
theorem ev_mEnT (m : ME) (env : Env) (te : List A) : mEnT m env te = (((m env te).bind (k_mEnT_0) : Rs (List A × (Env → Option (List Dt))))) := rfl
def k_mEnL_0 (env : Env) : A → Env → Rs (List A × (Env → Option (List Dt))) := fun a e => match a.lst? e with
  | some xs => .ok ([a], fun env => (a.lst? env).map enumD) e
  | none => .bad
theorem ek_mEnL_0 (env : Env) (a : A) (e : Env) : k_mEnL_0 env a e = (match a.lst? e with
  | some xs => .ok ([a], fun env => (a.lst? env).map enumD) e
  | none => .bad : Rs (List A × (Env → Option (List Dt)))) := rfl
theorem ev_mEnL (m : ME) (env : Env) (te : List A) : mEnL m env te = (((m env te).bind (k_mEnL_0 env) : Rs (List A × (Env → Option (List Dt))))) := rfl
theorem ev_mPure (m : ME) (env : Env) (_u1 : _) : mPure m env _u1 = (match m (viewE env) [] with
  | .ok (.d x) _ => if tupD x = true then .ok (.d x) env else .bad
  | .ok (.own o) _ => if o.tup = true then .ok (.own o) env else .bad
  | _ => .bad) := rfl
theorem ev_mPureK (j : Nat) (m : ME) (env : Env) (te : List A) : mPureK j m env te = (if isDict env j = true then mPure m env te else .bad) := rfl
theorem ev_mPureL (j : Nat) (m : ME) (env : Env) (_u1 : _) : mPureL j m env _u1 = (if isDict env j = true then (match m (viewK env j) [] with
  | .ok (.d x) _ => if tupD x = true then .ok (.d x) env else .bad
  | .ok (.own o) _ => if o.tup = true then .ok (.own o) env else .bad
  | _ => .bad) else .bad) := rfl
theorem ev_mKI (j : Nat) (env : Env) (te : List A) : mKI j env te = ((match env[j]? with
  | some (some (.lk kvs)) => if (kvs.all fun q => flatD q.1) = true then .ok ([.lk kvs], fun _ => some (kvs.map (·.1))) env else .bad
  | _ => .bad : Rs (List A × (Env → Option (List Dt))))) := rfl
def k_mDGet2_0 (mk : ME) (mx : ME) (te : List A) : A → Env → Rs A := fun a e1 => if isDct e1 a = true then (mk e1 (a :: te)).bind fun b e2 => (mx e2 (b :: a :: te)).bind fun c e3 => (match (b.val e3).bind keyD, c with
    | some k, .d y => (match dgO e3 a k with
      | some (.dt x) => .ok (.d x) e3
      | some .no => .ok (.d y) e3
      | _ => .bad)
    | _, _ => .bad) else .bad
theorem ek_mDGet2_0 (mk : ME) (mx : ME) (te : List A) (a : A) (e1 : Env) : k_mDGet2_0 mk mx te a e1 = (if isDct e1 a = true then (mk e1 (a :: te)).bind fun b e2 => (mx e2 (b :: a :: te)).bind fun c e3 => (match (b.val e3).bind keyD, c with
    | some k, .d y => (match dgO e3 a k with
      | some (.dt x) => .ok (.d x) e3
      | some .no => .ok (.d y) e3
      | _ => .bad)
    | _, _ => .bad) else .bad : Rs A) := rfl
theorem ev_mDGet2 (md mk mx : ME) (env : Env) (te : List A) : mDGet2 md mk mx env te = ((md env te).bind (k_mDGet2_0 mk mx te)) := rfl
def k_mPut_2 (te : List A) (c : A) (e : Env) (a : A) : A → Env → Fl := fun b e2 => match putA e2 te a b c with
  | some e' => .nx e'
  | none => .bad
theorem ek_mPut_2 (te : List A) (c : A) (e : Env) (a : A) (b : A) (e2 : Env) : k_mPut_2 te c e a b e2 = (match putA e2 te a b c with
  | some e' => .nx e'
  | none => .bad : Fl) := rfl
def k_mPut_1 (mk : ME) (te : List A) (c : A) (e : Env) : A → Env → Fl := fun a e1 => (mk e1 (a :: c :: te)).fl (k_mPut_2 te c e a)
theorem ek_mPut_1 (mk : ME) (te : List A) (c : A) (e : Env) (a : A) (e1 : Env) : k_mPut_1 mk te c e a e1 = ((mk e1 (a :: c :: te)).fl (k_mPut_2 te c e a) : Fl) := rfl
def k_mPut_0 (md : ME) (mk : ME) (te : List A) : A → Env → Fl := fun c e => (md e (c :: te)).fl (k_mPut_1 mk te c e)
theorem ek_mPut_0 (md : ME) (mk : ME) (te : List A) (c : A) (e : Env) : k_mPut_0 md mk te c e = ((md e (c :: te)).fl (k_mPut_1 mk te c e) : Fl) := rfl
theorem ev_mPut (mv md mk : ME) (env : Env) (te : List A) : mPut mv md mk env te = ((mv env te).fl (k_mPut_0 md mk te)) := rfl
theorem ev_appLA (e : Env) (te : List A) (o : A) (as : List A) : appLA e te o as = (match as, o with
  | [.own (.l ys)], .rf i none => (match e[i]?, owAt e i with
    | some (some ca), some (.ll xss) => if xss.length < sizeLine ∧ anyC (isNest i) e te = false then .ok (.d .none) (e.set i (some (reOw ca (.ll (xss ++ [ys]))))) else .bad
    | _, _ => .bad)
  | _, _ => .bad) := rfl
theorem ev_popLA (e : Env) (te : List A) (o : A) (as : List A) : popLA e te o as = (match as, o with
  | [], .rf i none => (match e[i]?, owAt e i with
    | some (some ca), some (.ll xss) => (match xss[xss.length - 1]? with
      | some ys => if anyC (isNest i) e te = false then .ok (.d (.list ys)) (e.set i (some (reOw ca (.ll xss.dropLast)))) else .bad
      | none => .bad)
    | _, _ => .bad)
  | _, _ => .bad) := rfl
theorem ev_orM (f g : Env → List A → A → List A → Rs A) (e : Env) (te : List A) (o : A) (as : List A) : orM f g e te o as = (match f e te o as with
  | .bad => g e te o as
  | r => r) := rfl
theorem ev_mNest (env : Env) (_u1 : _) : mNest env _u1 = (.ok (.own (.ll [[]])) env) := rfl
def k_mDisp1_1 (a : A) : A → Env → Rs A := fun b e2 => match a, b with
  | .d kd, .own (.l ys) => (match keyD kd with
    | some k => .ok (.own (.dl [(k, ys)])) e2
    | none => .bad)
  | _, _ => .bad
theorem ek_mDisp1_1 (a : A) (b : A) (e2 : Env) : k_mDisp1_1 a b e2 = (match a, b with
  | .d kd, .own (.l ys) => (match keyD kd with
    | some k => .ok (.own (.dl [(k, ys)])) e2
    | none => .bad)
  | _, _ => .bad : Rs A) := rfl
def k_mDisp1_0 (mv : ME) (te : List A) : A → Env → Rs A := fun a e1 => (mv e1 (a :: .own (.dc []) :: te)).bind (k_mDisp1_1 a)
theorem ek_mDisp1_0 (mv : ME) (te : List A) (a : A) (e1 : Env) : k_mDisp1_0 mv te a e1 = ((mv e1 (a :: .own (.dc []) :: te)).bind (k_mDisp1_1 a) : Rs A) := rfl
theorem ev_mDisp1 (mk mv : ME) (env : Env) (te : List A) : mDisp1 mk mv env te = ((mk env (.own (.dc []) :: te)).bind (k_mDisp1_0 mv te)) := rfl
def k_mPar_0 (i : Nat) (j : Nat) (te : List A) : List A → Env → Fl := fun as e => match as with
  | [a, b] => (match gN j b e (a :: te) with
    | some e1 => (match gN i a e1 te with
      | some e2 => .nx e2
      | none => .bad)
    | none => .bad)
  | _ => .bad
theorem ek_mPar_0 (i : Nat) (j : Nat) (te : List A) (as : List A) (e : Env) : k_mPar_0 i j te as e = (match as with
  | [a, b] => (match gN j b e (a :: te) with
    | some e1 => (match gN i a e1 te with
      | some e2 => .nx e2
      | none => .bad)
    | none => .bad)
  | _ => .bad : Fl) := rfl
theorem ev_mPar (i j : Nat) (m : MA) (env : Env) (te : List A) : mPar i j m env te = ((m env te).fl (k_mPar_0 i j te)) := rfl
def k_mPar3_0 (i : Nat) (j : Nat) (l : Nat) (te : List A) : List A → Env → Fl := fun as e => match as with
  | [a, b, c] => (match gN l c e (b :: a :: te) with
    | some e0 => (match gN j b e0 (a :: te) with
      | some e1 => (match gN i a e1 te with
        | some e2 => .nx e2
        | none => .bad)
      | none => .bad)
    | none => .bad)
  | _ => .bad
theorem ek_mPar3_0 (i : Nat) (j : Nat) (l : Nat) (te : List A) (as : List A) (e : Env) : k_mPar3_0 i j l te as e = (match as with
  | [a, b, c] => (match gN l c e (b :: a :: te) with
    | some e0 => (match gN j b e0 (a :: te) with
      | some e1 => (match gN i a e1 te with
        | some e2 => .nx e2
        | none => .bad)
      | none => .bad)
    | none => .bad)
  | _ => .bad : Fl) := rfl
theorem ev_mPar3 (i j l : Nat) (m : MA) (env : Env) (te : List A) : mPar3 i j l m env te = ((m env te).fl (k_mPar3_0 i j l te)) := rfl
def k_mChain_1 (g1 : Dt → Dt → Option Dt) (g2 : Dt → Dt → Option Dt) (mc : ME) (te : List A) (a : A) : A → Env → Rs A := fun b e2 => match (match a.val e2, b.val e2 with | some x, some y => g1 x y | _, _ => none) with
  | some (.bool true) => if isIo b = true then .bad else (mc e2 (b :: te)).bind fun c e4 => fl2 g2 e4 b c
  | some (.bool false) => .ok (.d (.bool false)) e2
  | _ => .bad
theorem ek_mChain_1 (g1 : Dt → Dt → Option Dt) (g2 : Dt → Dt → Option Dt) (mc : ME) (te : List A) (a : A) (b : A) (e2 : Env) : k_mChain_1 g1 g2 mc te a b e2 = (match (match a.val e2, b.val e2 with | some x, some y => g1 x y | _, _ => none) with
  | some (.bool true) => if isIo b = true then .bad else (mc e2 (b :: te)).bind fun c e4 => fl2 g2 e4 b c
  | some (.bool false) => .ok (.d (.bool false)) e2
  | _ => .bad : Rs A) := rfl
def k_mChain_0 (g1 : Dt → Dt → Option Dt) (g2 : Dt → Dt → Option Dt) (mb : ME) (mc : ME) (te : List A) : A → Env → Rs A := fun a e1 => (mb e1 (a :: te)).bind (k_mChain_1 g1 g2 mc te a)
theorem ek_mChain_0 (g1 : Dt → Dt → Option Dt) (g2 : Dt → Dt → Option Dt) (mb : ME) (mc : ME) (te : List A) (a : A) (e1 : Env) : k_mChain_0 g1 g2 mb mc te a e1 = ((mb e1 (a :: te)).bind (k_mChain_1 g1 g2 mc te a) : Rs A) := rfl
theorem ev_mChain (g1 g2 : Dt → Dt → Option Dt) (ma mb mc : ME) (env : Env) (te : List A) : mChain g1 g2 ma mb mc env te = ((ma env te).bind (k_mChain_0 g1 g2 mb mc te)) := rfl
theorem ev_mDnew (env : Env) (_u1 : _) : mDnew env _u1 = (.ok (.own (.dc [])) env) := rfl
theorem ev_gL (is : List Nat) (a : A) (env : Env) (te : List A) : gL is a env te = (match a.lst? env with
  | some xs => gTs is xs env te
  | none => none) := rfl

theorem zq00 {α β : Type} (a : α) (e : Env) (f : α → Env → Rs β) : Rs.bind (.ok a e) f = f a e := rfl
theorem zq01 {α : Type} (a : α) (e : Env) (f : α → Env → Fl) : Rs.fl (.ok a e) f = f a e := rfl
theorem ev_th_nx (e : Env) (f : Env → Fl) : Fl.th (.nx e) f = f e := rfl
theorem ev_th_rt (a : A) (e : Env) (f : Env → Fl) : Fl.th (.rt a e) f = .rt a e := rfl
theorem ev_lp_nx (e : Env) (f : Env → Fl) : Fl.lp (.nx e) f = f e := rfl
theorem ev_lp_rt (a : A) (e : Env) (f : Env → Fl) : Fl.lp (.rt a e) f = .rt a e := rfl
theorem ev_noXf (f : DF) (as : List A) : noXf f as = (f as).noX := rfl
/-- what holds at the end of a block -/
inductive FP (N : Env → Prop) (R : A → Env → Prop) : Fl → Prop
  | nx {e : Env} (h : N e) : FP N R (.nx e)
  | rt {a : A} {e : Env} (h : R a e) : FP N R (.rt a e)
def Sq (n : MS) (te : List A) (N : Env → Prop) (R : A → Env → Prop) (e : Env) : Prop := FP N R (n e te)
theorem fp_nx (N : Env → Prop) (R : A → Env → Prop) (e : Env) : FP N R (.nx e) = N e := propext ⟨fun h => by cases h; assumption, .nx⟩
theorem fp_rt (N : Env → Prop) (R : A → Env → Prop) (a : A) (e : Env) : FP N R (.rt a e) = R a e := propext ⟨fun h => by cases h; assumption, .rt⟩
theorem fp_seq (N : Env → Prop) (R : A → Env → Prop) (m n : MS) (env : Env) (te : List A) : FP N R (mSeq m n env te) = FP (Sq n te N R) R (m env te) := by
  show FP N R ((m env te).th fun e => n e te) = _
  cases m env te with
  | nx e => rw [fp_nx]; rfl
  | rt a e => rw [fp_rt]; exact fp_rt _ _ _ _
  | _ => exact propext ⟨(fun h => nomatch h), (fun h => nomatch h)⟩
theorem sq_ap (n : MS) (te : List A) (N : Env → Prop) (R : A → Env → Prop) (e : Env) : Sq n te N R e = FP N R (n e te) := rfl
/-- what a def gives -/
inductive DOk (Q : A → List A → Prop) : DRs → Prop
  | ok {a : A} {ios : List A} (h : Q a ios) : DOk Q (.ok a ios)
def EndR (as : List A) (Q : A → List A → Prop) (a : A) (e : Env) : Prop := ∃ r, retA e a = some r ∧ Q r (backs as e)
def EndN (as : List A) (Q : A → List A → Prop) (e : Env) : Prop := Q (.d .none) (backs as e)
theorem run_ok {n : Nat} {m : MS} {as : List A} {Q : A → List A → Prop} (h : FP (EndN as Q) (EndR as Q) (m (as.map some ++ List.replicate (n - as.length) none) [])) : DOk Q (runM n m as) := by
  show DOk Q (endM as (m (as.map some ++ List.replicate (n - as.length) none) []))
  cases e : m (as.map some ++ List.replicate (n - as.length) none) [] with
  | nx e' => rw [e, fp_nx] at h; exact .ok h
  | rt a e' =>
    rw [e, fp_rt] at h
    obtain ⟨r, h1, h2⟩ := h
    show DOk Q (match retA e' a with | some r => .ok r (backs as e') | none => .bad)
    rw [h1]
    exact .ok h2
  | bk e' => rw [e] at h; exact nomatch h
  | ct e' => rw [e] at h; exact nomatch h
  | ex x e' => rw [e] at h; exact nomatch h
  | bad => rw [e] at h; exact nomatch h
theorem DOk.ex {Q : A → List A → Prop} {r : DRs} (h : DOk Q r) : ∃ a ios, r = .ok a ios ∧ Q a ios := by
  cases h with
  | ok h => exact ⟨_, _, rfl, h⟩
theorem fp_for {N : Env → Prop} {R : A → Env → Prop} {kd : Dt → A} {mi : MI} {g : MG} {body : MS} {env e : Env} {te as : List A} {rd : Env → Option (List Dt)} {xs : List Dt} (I : List Dt → Env → Prop) (hm : mi env te = .ok (as, rd) e) (h0 : I xs e) (hr : ∀ r e, I r e → rd e = some xs)
    (step : ∀ x r e, I (x :: r) e → ∃ e1, g (kd x) e (as ++ te) = some e1 ∧ FP (I r) R (body e1 (as ++ te))) (fin : ∀ e, I [] e → N e) : FP N R (mFor kd mi g body env te) := by
  show FP N R ((mi env te).fl _)
  rw [hm]
  show FP N R (match rd e with | some xs => forM kd rd xs (as ++ te) g body xs e | none => .bad)
  rw [hr _ _ h0]
  show FP N R (forM kd rd xs (as ++ te) g body xs e)
  have key : ∀ r e, I r e → FP N R (forM kd rd xs (as ++ te) g body r e) := by
    intro r
    induction r with
    | nil =>
      intro e h
      unfold forM
      rw [if_pos (hr _ _ h)]
      exact .nx (fin e h)
    | cons x r ih =>
      intro e h
      obtain ⟨e1, h1, h2⟩ := step x r e h
      unfold forM
      rw [if_pos (hr _ _ h), h1]
      show FP N R ((body e1 (as ++ te)).lp _)
      cases eb : body e1 (as ++ te) with
      | nx e2 => rw [eb, fp_nx] at h2; exact ih e2 h2
      | rt a e2 => rw [eb, fp_rt] at h2; exact .rt h2
      | bk e2 => rw [eb] at h2; exact nomatch h2
      | ct e2 => rw [eb] at h2; exact nomatch h2
      | ex x e2 => rw [eb] at h2; exact nomatch h2
      | bad => rw [eb] at h2; exact nomatch h2
  exact key xs e h0
theorem fp_while {N : Env → Prop} {R : A → Env → Prop} {c : MT} {b : MS} {env : Env} {te : List A} (I : Env → Prop) (μ : Env → Nat) (h0 : I env)
    (step : ∀ e, I e → ∃ x e1, c e te = .ok x e1 ∧ (x = true → FP (fun e2 => I e2 ∧ μ e2 < μ e) R (b e1 te)) ∧ (x = false → N e1)) : FP N R (mWhile c b env te) := by
  have key : ∀ n e, μ e < n → I e → FP N R (mWhile c b e te) := by
    intro n
    induction n with
    | zero => exact fun e h => absurd h (Nat.not_lt_zero _)
    | succ n ih =>
      intro e hn h
      obtain ⟨x, e1, h1, ht, hf⟩ := step e h
      rw [mWhile_eq, h1]
      show FP N R (if x = true then _ else _)
      cases x with
      | false => exact .nx (hf rfl)
      | true =>
        rw [if_pos rfl]
        have h2 := ht rfl
        cases eb : b e1 te with
        | nx e2 => rw [eb, fp_nx] at h2; exact ih e2 (by have := h2.2; omega) h2.1
        | rt a e2 => rw [eb, fp_rt] at h2; exact .rt h2
        | bk e2 => rw [eb] at h2; exact nomatch h2
        | ct e2 => rw [eb] at h2; exact nomatch h2
        | ex x e2 => rw [eb] at h2; exact nomatch h2
        | bad => rw [eb] at h2; exact nomatch h2
  exact key _ env (Nat.lt_succ_self _) h0
theorem lc_ok {kd : Dt → A} {mi : MI} {g : MG} {tt : MT} {el : ME} {vs : List Nat} {env e : Env} {te as : List A} {rd : Env → Option (List Dt)} {xs : List Dt} (I : List Dt → List Dt → Env → Prop) (hm : mi env te = .ok (as, rd) e) (hw : wipeOk e (.own (.l []) :: (as ++ te)) vs = true) (h0 : I xs [] (wipeE e vs)) (hr : ∀ r acc e, I r acc e → rd e = some xs)
    (step : ∀ x r acc e, I (x :: r) acc e → ∃ e1, g (kd x) e (.own (.l acc) :: (as ++ te)) = some e1 ∧ ∃ b e2, tt e1 (.own (.l acc) :: (as ++ te)) = .ok b e2 ∧
      (b = true → ∃ y e3, el e2 (.own (.l acc) :: (as ++ te)) = .ok (.d y) e3 ∧ acc.length < sizeLine ∧ wipeOk e3 (.own (.l (acc ++ [y])) :: (as ++ te)) vs = true ∧ I r (acc ++ [y]) (wipeE e3 vs)) ∧
      (b = false → wipeOk e2 (.own (.l acc) :: (as ++ te)) vs = true ∧ I r acc (wipeE e2 vs))) : ∃ ys e', mLc kd mi g tt el vs env te = .ok (.own (.l ys)) e' ∧ I [] ys e' := by
  obtain ⟨ys, e', h1, h2⟩ := lcM_inv (te := as ++ te) I hr step _ _ _ h0
  refine ⟨ys, e', ?_, h2⟩
  show ((mi env te).bind _) = _
  rw [hm]
  show (match rd (wipeE e vs) with | some xs => if wipeOk e (.own (.l []) :: (as ++ te)) vs = true then (lcM kd rd xs (as ++ te) g tt el vs xs [] (wipeE e vs)).bind fun ys e2 => Rs.ok (A.own (.l ys)) e2 else .bad | none => .bad) = _
  rw [hr _ _ _ h0]
  show (if wipeOk e (.own (.l []) :: (as ++ te)) vs = true then (lcM kd rd xs (as ++ te) g tt el vs xs [] (wipeE e vs)).bind fun ys e2 => Rs.ok (A.own (.l ys)) e2 else .bad) = _
  rw [if_pos hw, h1]
  rfl
theorem lc_okr {kd : Dt → A} {mi : MI} {g : MG} {tt : MT} {el : ME} {vs : List Nat} {env e : Env} {te as : List A} {rd : Env → Option (List Dt)} {xs : List Dt} {r0 : Rs A} (hl : mLc kd mi g tt el vs env te = r0) (I : List Dt → List Dt → Env → Prop) (hm : mi env te = .ok (as, rd) e) (hw : wipeOk e (.own (.l []) :: (as ++ te)) vs = true) (h0 : I xs [] (wipeE e vs)) (hr : ∀ r acc e, I r acc e → rd e = some xs)
    (step : ∀ x r acc e, I (x :: r) acc e → ∃ e1, g (kd x) e (.own (.l acc) :: (as ++ te)) = some e1 ∧ ∃ b e2, tt e1 (.own (.l acc) :: (as ++ te)) = .ok b e2 ∧
      (b = true → ∃ y e3, el e2 (.own (.l acc) :: (as ++ te)) = .ok (.d y) e3 ∧ acc.length < sizeLine ∧ wipeOk e3 (.own (.l (acc ++ [y])) :: (as ++ te)) vs = true ∧ I r (acc ++ [y]) (wipeE e3 vs)) ∧
      (b = false → wipeOk e2 (.own (.l acc) :: (as ++ te)) vs = true ∧ I r acc (wipeE e2 vs))) : ∃ ys e', r0 = .ok (.own (.l ys)) e' ∧ I [] ys e' := by
  rw [← hl]
  exact lc_ok I hm hw h0 hr step
end Tw

namespace Tw
open PySem PySem.Spec PyProof.Rows L2
/-! ### blocks, statement by statement -/
theorem FP.st {N : Env → Prop} {R : A → Env → Prop} {m n : MS} {env e : Env} {te : List A} (h : m env te = .nx e) (k : FP N R (n e te)) : FP N R (mSeq m n env te) := by
  rw [fp_seq, h]
  exact .nx k
theorem FP.sq {N : Env → Prop} {R : A → Env → Prop} {m n : MS} {env : Env} {te : List A} (k : FP (fun e => FP N R (n e te)) R (m env te)) : FP N R (mSeq m n env te) := by
  rw [fp_seq]
  exact k
theorem FP.en {N : Env → Prop} {R : A → Env → Prop} {m : MS} {env e : Env} {te : List A} (h : m env te = .nx e) (k : N e) : FP N R (m env te) := by
  rw [h]
  exact .nx k
theorem FP.re {N : Env → Prop} {R : A → Env → Prop} {m : ME} {env e : Env} {te : List A} {a : A} (h : m env te = .ok a e) (k : R a e) : FP N R (mRet m env te) := by
  show FP N R ((m env te).fl _)
  rw [h]
  exact .rt k
theorem FP.imp {N N' : Env → Prop} {R R' : A → Env → Prop} {f : Fl} (h : FP N R f) (hn : ∀ e, N e → N' e) (hr : ∀ a e, R a e → R' a e) : FP N' R' f := by
  cases h with
  | nx h => exact .nx (hn _ h)
  | rt h => exact .rt (hr _ _ h)
/-- a comprehension that neither draws nor changes anything -/
theorem lc_pureE {kd : Dt → A} {mi : MI} {g : MG} {tt : MT} {el : ME} {vs : List Nat} {env e : Env} {te as : List A} {rd : Env → Option (List Dt)} {xs : List Dt} (p : Dt → Bool) (f : Dt → Dt) (hm : mi env te = .ok (as, rd) e) (hr : rd e = some xs) (hl : xs.length ≤ 100000) (hw : wipeOk e (.own (.l []) :: (as ++ te)) vs = true) (hwe : wipeE e vs = e)
    (step : ∀ x ∈ xs, ∀ acc : List Dt, ∃ e1, g (kd x) e (.own (.l acc) :: (as ++ te)) = some e1 ∧ tt e1 (.own (.l acc) :: (as ++ te)) = .ok (p x) e1 ∧ (p x = true → el e1 (.own (.l acc) :: (as ++ te)) = .ok (.d (f x)) e1) ∧ (∀ acc' : List Dt, wipeOk e1 (.own (.l acc') :: (as ++ te)) vs = true) ∧ wipeE e1 vs = e) :
    mLc kd mi g tt el vs env te = .ok (.own (.l ((xs.filter p).map f))) e := by
  obtain ⟨ys, e', h1, done, h2, rfl, rfl⟩ := lc_ok (kd := kd) (mi := mi) (g := g) (tt := tt) (el := el) (vs := vs) (env := env) (te := te) (as := as) (rd := rd) (xs := xs) (e := e) (fun r acc e' => ∃ done, xs = done ++ r ∧ acc = (done.filter p).map f ∧ e' = e) hm hw ⟨[], rfl, rfl, hwe⟩ (by rintro r acc e ⟨_, _, _, rfl⟩; exact hr) (by
    rintro x r acc e' ⟨done, h1, h2, rfl⟩
    obtain ⟨e1, q1, q2, q3, q4, q5⟩ := step x (by rw [h1]; exact List.mem_append_right _ List.mem_cons_self) acc
    refine ⟨e1, q1, p x, e1, q2, fun hb => ⟨f x, e1, q3 hb, ?_, q4 _, done ++ [x], by rw [h1]; simp, ?_, q5⟩, fun hb => ⟨q4 _, done ++ [x], by rw [h1]; simp, ?_, q5⟩⟩
    · have e1 : xs.length = done.length + (r.length + 1) := by rw [h1, List.length_append, List.length_cons]
      have e2 := List.length_filter_le p done
      have e3 : acc.length = (done.filter p).length := by rw [h2, List.length_map]
      refine big' ?_
      omega
    · rw [h2, List.filter_append, List.filter_cons, if_pos hb, List.map_append]
      rfl
    · rw [h2, List.filter_append, List.filter_cons, if_neg (by rw [hb]; exact Bool.false_ne_true), List.map_append]
      simp)
  rw [h1, h2, List.append_nil]
theorem lc_pure {kd : Dt → A} {mi : MI} {g : MG} {tt : MT} {el : ME} {vs : List Nat} {e : Env} {te as : List A} {rd : Env → Option (List Dt)} {xs : List Dt} (p : Dt → Bool) (f : Dt → Dt) (hm : mi e te = .ok (as, rd) e) (hr : rd e = some xs) (hl : xs.length ≤ 100000) (hw : wipeOk e (.own (.l []) :: (as ++ te)) vs = true) (hwe : wipeE e vs = e)
    (step : ∀ x ∈ xs, ∀ acc : List Dt, ∃ e1, g (kd x) e (.own (.l acc) :: (as ++ te)) = some e1 ∧ tt e1 (.own (.l acc) :: (as ++ te)) = .ok (p x) e1 ∧ (p x = true → el e1 (.own (.l acc) :: (as ++ te)) = .ok (.d (f x)) e1) ∧ (∀ acc' : List Dt, wipeOk e1 (.own (.l acc') :: (as ++ te)) vs = true) ∧ wipeE e1 vs = e) :
    mLc kd mi g tt el vs e te = .ok (.own (.l ((xs.filter p).map f))) e := lc_pureE p f hm hr hl hw hwe step
/-! ### cells that hold a datum or nothing -/
def od : Option Dt → Option A
  | none => none
  | some x => some (.d x)
theorem od_none : od none = none := rfl
theorem od_some (x : Dt) : od (some x) = some (.d x) := rfl
def cB (f : A → Bool) : Option A → Bool
  | some a => f a
  | none => false
theorem inE_nil (f : A → Bool) : inE f [] = false := rfl
theorem inE_cons (f : A → Bool) (c : Option A) (e : Env) : inE f (c :: e) = (cB f c || inE f e) := by
  cases c <;> rfl
theorem cB_some (f : A → Bool) (a : A) : cB f (some a) = f a := rfl
theorem cB_none (f : A → Bool) : cB f none = false := rfl
theorem cB_od_rf (i : Nat) (o : Option Dt) : cB (isRf i) (od o) = false := by cases o <;> rfl
theorem cB_od_nest (i : Nat) (o : Option Dt) : cB (isNest i) (od o) = false := by cases o <;> rfl
theorem cB_od_nestK (i : Nat) (k : Key) (o : Option Dt) : cB (isNestK i k) (od o) = false := by cases o <;> rfl
def nIo : Option (Option A) → Bool
  | some (some (.io _)) => false
  | _ => true
theorem nIo0 : nIo none = true := rfl
theorem nIo1 : nIo (some none) = true := rfl
theorem nIo_d (x : Dt) : nIo (some (some (.d x))) = true := rfl
theorem nIo_own (o : Ow) : nIo (some (some (.own o))) = true := rfl
theorem nIo_io (o : Ow) : nIo (some (some (.io o))) = false := rfl
theorem nIo_rf (i : Nat) (p : Option Key) : nIo (some (some (.rf i p))) = true := rfl
theorem nIo_sc (x : List Int) : nIo (some (some (.sc x))) = true := rfl
theorem nIo_q (x : List Dt) : nIo (some (some (.q x))) = true := rfl
theorem nIo_od (o : Option Dt) : nIo (some (od o)) = true := by cases o <;> rfl
theorem ev_setOk (i : Nat) (a : A) (env : Env) (te : List A) : setOk i a env te = (decide (i < env.length) && nIo env[i]? && !anyC (isRf i) env (a :: te) && !isIo a) := by
  unfold setOk nIo
  rfl
theorem wipeOk_nil (env : Env) (te : List A) : wipeOk env te [] = true := rfl
theorem wipeOk_cons (env : Env) (te : List A) (v : Nat) (vs : List Nat) : wipeOk env te (v :: vs) = (wipeOk env te vs && !anyC (isRf v) (wipeE env vs) te && nIo (wipeE env vs)[v]?) := by
  rw [wipeOk]
  unfold nIo
  rfl
def wKc (i : Nat) (k : Key) : Option A → Option A
  | some a => if isNestK i k a = true then none else some a
  | none => none
theorem wipeK_nil (i : Nat) (k : Key) : wipeK i k [] = [] := rfl
theorem wipeK_cons (i : Nat) (k : Key) (c : Option A) (e : Env) : wipeK i k (c :: e) = wKc i k c :: wipeK i k e := by
  cases c <;> rfl
theorem wKc_some (i : Nat) (k : Key) (a : A) : wKc i k (some a) = if isNestK i k a = true then none else some a := rfl
theorem wKc_none (i : Nat) (k : Key) : wKc i k none = none := rfl
theorem wKc_od (i : Nat) (k : Key) (o : Option Dt) : wKc i k (od o) = od o := by cases o <;> rfl
end Tw


local macro_rules
  | `(tactic| simp! [$xs,*]) => `(tactic| simp [Tw.owAt, Tw.Ow.sub, Tw.A.val, Tw.Ow.lst?, Tw.A.lstT?, Tw.A.lst?, Tw.A.tup?, Tw.vA, Tw.ev_mVar, Tw.ev_mC, Tw.ev_mNil, Tw.ek_mCons_1, Tw.ek_mCons_0, Tw.ev_mCons, Tw.frzA, Tw.ek_mD_0, Tw.ev_mD, Tw.ek_mOp_1, Tw.ek_mOp_0, Tw.ev_mOp, Tw.ek_mU_0, Tw.ev_mU, Tw.ek_mCB_0, Tw.ev_mCB, Tw.ev_fl2, Tw.ev_fl1, Tw.tstA, Tw.ev_mTst, Tw.ek_mAnd_0, Tw.ev_mAnd, Tw.ek_mOr_0, Tw.ev_mOr, Tw.ek_mNot_0, Tw.ev_mNot, Tw.ev_mYes, Tw.ek_mIfE_0, Tw.ev_mIfE, Tw.ek_mAndE_0, Tw.ev_mAndE, Tw.ek_mOrE_0, Tw.ev_mOrE, Tw.ek_mNotE_0, Tw.ev_mNotE, Tw.ev_setOk, Tw.nIo0, Tw.nIo1, Tw.nIo_d, Tw.nIo_own, Tw.nIo_io, Tw.nIo_rf, Tw.nIo_sc, Tw.nIo_q, Tw.nIo_od, Tw.od_none, Tw.od_some, Tw.ev_gN, Tw.gTs, Tw.ev_gT, Tw.ek_mAsg_0, Tw.ev_mAsg, Tw.ek_mDrop_0, Tw.ev_mDrop, Tw.ek_mIfS_0, Tw.ev_mIfS, Tw.ek_mRet_0, Tw.ev_mRet, Tw.ev_mRetN, Tw.ev_mNext, Tw.ev_mBrk, Tw.ev_mCt, Tw.ev_mNever, Tw.kdQ, Tw.wipeE, Tw.wipeOk_nil, Tw.wipeOk_cons, Tw.Rs.noX, Tw.backA, Tw.backs, Tw.retA, Tw.tupD, Tw.tupAll, Tw.Ow.tup, Tw.A.tup, Tw.A.ioTup, Tw.cvA, Tw.cvAs, Tw.ioS, Tw.brS, Tw.agOk, Tw.setOw, Tw.setIo, Tw.doCall, Tw.ek_mCall_0, Tw.ev_mCall, Tw.d2, Tw.ev_addA, Tw.ev_mulA, Tw.subD, Tw.divD, Tw.modD, Tw.powD, Tw.negD, Tw.ltD, Tw.leD, Tw.gtD, Tw.geD, Tw.isNoneD, Tw.isD, Tw.notD, Tw.seqD, Tw.dAll, Tw.ek_mTup_0, Tw.ev_mTup, Tw.ek_mLst_0, Tw.ev_mLst, Tw.ev_ixA, Tw.ev_mNoPart, Tw.ek_mPart_0, Tw.ev_mPart, Tw.slA, Tw.ek_mSl_2, Tw.ek_mSl_1, Tw.ek_mSl_0, Tw.ev_mSl, Tw.revA, Tw.revLA, Tw.ev_one, Tw.lenD, Tw.ev_lenA, Tw.ev_tupA, Tw.ev_lstA, Tw.ev_allA, Tw.ev_anyA, Tw.tyD, Tw.ek_mIsi_0, Tw.ev_mIsi, Tw.absD, Tw.intD, Tw.ev_min2A, Tw.ev_max2A, Tw.joinS, Tw.ek_mJoin_0, Tw.ev_mJoin, Tw.isNestK, Tw.reOw, Tw.Ow.put, Tw.setP, Tw.isL, Tw.ek_mMeth_0, Tw.ev_mMeth, Tw.ev_appA, Tw.ev_extA, Tw.ev_insA, Tw.ev_popA, Tw.ev_popAtA, Tw.ek_mTix_0, Tw.ev_mTix, Tw.setLA, Tw.ek_mSetL_2, Tw.ek_mSetL_1, Tw.ek_mSetL_0, Tw.ev_mSetL, Tw.A.seq?, Tw.ek_mSeqI_0, Tw.ev_mSeqI, Tw.ek_mRng1_0, Tw.ev_mRng1, Tw.ek_mRng2_1, Tw.ek_mRng2_0, Tw.ev_mRng2, Tw.ek_mEnT_0, Tw.ev_mEnT, Tw.ek_mEnL_0, Tw.ev_mEnL, Tw.ev_mPure, Tw.isDict, Tw.ev_mPureK, Tw.ev_mPureL, Tw.ev_mKI, Tw.keyD, Tw.dgO, Tw.dgA, Tw.dinA, Tw.isDct, Tw.ek_mDGet2_0, Tw.ev_mDGet2, Tw.keysA, Tw.ownTo, Tw.putO, Tw.wipeK_nil, Tw.wipeK_cons, Tw.wKc_some, Tw.wKc_none, Tw.wKc_od, Tw.putA, Tw.ek_mPut_2, Tw.ek_mPut_1, Tw.ek_mPut_0, Tw.ev_mPut, Tw.ev_appLA, Tw.ev_popLA, Tw.ev_orM, Tw.ev_mNest, Tw.flatM, Tw.pairUp, Tw.ek_mDisp1_1, Tw.ek_mDisp1_0, Tw.ev_mDisp1, Tw.DRs.noX, Tw.ek_mPar_0, Tw.ev_mPar, Tw.ek_mPar3_0, Tw.ev_mPar3, Tw.ek_mChain_1, Tw.ek_mChain_0, Tw.ev_mChain, Tw.ev_mDnew, Tw.ev_gL, Tw.A.ow, Tw.zq00, Tw.zq01, Tw.ev_th_nx, Tw.ev_th_rt, Tw.ev_lp_nx, Tw.ev_lp_rt, Tw.ev_noXf, Tw.fp_nx, Tw.fp_rt, Tw.fp_seq, Tw.sq_ap, Tw.anyC, Tw.inE_nil, Tw.inE_cons, Tw.cB_some, Tw.cB_none, Tw.cB_od_rf, Tw.cB_od_nest, Tw.cB_od_nestK, Tw.isRf, Tw.isNest, Tw.isIo, Tw.Ow.dt, Tw.mutL, Tw.mDisp, $xs,*])
  | `(tactic| simp!) => `(tactic| simp [Tw.owAt, Tw.Ow.sub, Tw.A.val, Tw.Ow.lst?, Tw.A.lstT?, Tw.A.lst?, Tw.A.tup?, Tw.vA, Tw.ev_mVar, Tw.ev_mC, Tw.ev_mNil, Tw.ek_mCons_1, Tw.ek_mCons_0, Tw.ev_mCons, Tw.frzA, Tw.ek_mD_0, Tw.ev_mD, Tw.ek_mOp_1, Tw.ek_mOp_0, Tw.ev_mOp, Tw.ek_mU_0, Tw.ev_mU, Tw.ek_mCB_0, Tw.ev_mCB, Tw.ev_fl2, Tw.ev_fl1, Tw.tstA, Tw.ev_mTst, Tw.ek_mAnd_0, Tw.ev_mAnd, Tw.ek_mOr_0, Tw.ev_mOr, Tw.ek_mNot_0, Tw.ev_mNot, Tw.ev_mYes, Tw.ek_mIfE_0, Tw.ev_mIfE, Tw.ek_mAndE_0, Tw.ev_mAndE, Tw.ek_mOrE_0, Tw.ev_mOrE, Tw.ek_mNotE_0, Tw.ev_mNotE, Tw.ev_setOk, Tw.nIo0, Tw.nIo1, Tw.nIo_d, Tw.nIo_own, Tw.nIo_io, Tw.nIo_rf, Tw.nIo_sc, Tw.nIo_q, Tw.nIo_od, Tw.od_none, Tw.od_some, Tw.ev_gN, Tw.gTs, Tw.ev_gT, Tw.ek_mAsg_0, Tw.ev_mAsg, Tw.ek_mDrop_0, Tw.ev_mDrop, Tw.ek_mIfS_0, Tw.ev_mIfS, Tw.ek_mRet_0, Tw.ev_mRet, Tw.ev_mRetN, Tw.ev_mNext, Tw.ev_mBrk, Tw.ev_mCt, Tw.ev_mNever, Tw.kdQ, Tw.wipeE, Tw.wipeOk_nil, Tw.wipeOk_cons, Tw.Rs.noX, Tw.backA, Tw.backs, Tw.retA, Tw.tupD, Tw.tupAll, Tw.Ow.tup, Tw.A.tup, Tw.A.ioTup, Tw.cvA, Tw.cvAs, Tw.ioS, Tw.brS, Tw.agOk, Tw.setOw, Tw.setIo, Tw.doCall, Tw.ek_mCall_0, Tw.ev_mCall, Tw.d2, Tw.ev_addA, Tw.ev_mulA, Tw.subD, Tw.divD, Tw.modD, Tw.powD, Tw.negD, Tw.ltD, Tw.leD, Tw.gtD, Tw.geD, Tw.isNoneD, Tw.isD, Tw.notD, Tw.seqD, Tw.dAll, Tw.ek_mTup_0, Tw.ev_mTup, Tw.ek_mLst_0, Tw.ev_mLst, Tw.ev_ixA, Tw.ev_mNoPart, Tw.ek_mPart_0, Tw.ev_mPart, Tw.slA, Tw.ek_mSl_2, Tw.ek_mSl_1, Tw.ek_mSl_0, Tw.ev_mSl, Tw.revA, Tw.revLA, Tw.ev_one, Tw.lenD, Tw.ev_lenA, Tw.ev_tupA, Tw.ev_lstA, Tw.ev_allA, Tw.ev_anyA, Tw.tyD, Tw.ek_mIsi_0, Tw.ev_mIsi, Tw.absD, Tw.intD, Tw.ev_min2A, Tw.ev_max2A, Tw.joinS, Tw.ek_mJoin_0, Tw.ev_mJoin, Tw.isNestK, Tw.reOw, Tw.Ow.put, Tw.setP, Tw.isL, Tw.ek_mMeth_0, Tw.ev_mMeth, Tw.ev_appA, Tw.ev_extA, Tw.ev_insA, Tw.ev_popA, Tw.ev_popAtA, Tw.ek_mTix_0, Tw.ev_mTix, Tw.setLA, Tw.ek_mSetL_2, Tw.ek_mSetL_1, Tw.ek_mSetL_0, Tw.ev_mSetL, Tw.A.seq?, Tw.ek_mSeqI_0, Tw.ev_mSeqI, Tw.ek_mRng1_0, Tw.ev_mRng1, Tw.ek_mRng2_1, Tw.ek_mRng2_0, Tw.ev_mRng2, Tw.ek_mEnT_0, Tw.ev_mEnT, Tw.ek_mEnL_0, Tw.ev_mEnL, Tw.ev_mPure, Tw.isDict, Tw.ev_mPureK, Tw.ev_mPureL, Tw.ev_mKI, Tw.keyD, Tw.dgO, Tw.dgA, Tw.dinA, Tw.isDct, Tw.ek_mDGet2_0, Tw.ev_mDGet2, Tw.keysA, Tw.ownTo, Tw.putO, Tw.wipeK_nil, Tw.wipeK_cons, Tw.wKc_some, Tw.wKc_none, Tw.wKc_od, Tw.putA, Tw.ek_mPut_2, Tw.ek_mPut_1, Tw.ek_mPut_0, Tw.ev_mPut, Tw.ev_appLA, Tw.ev_popLA, Tw.ev_orM, Tw.ev_mNest, Tw.flatM, Tw.pairUp, Tw.ek_mDisp1_1, Tw.ek_mDisp1_0, Tw.ev_mDisp1, Tw.DRs.noX, Tw.ek_mPar_0, Tw.ev_mPar, Tw.ek_mPar3_0, Tw.ev_mPar3, Tw.ek_mChain_1, Tw.ek_mChain_0, Tw.ev_mChain, Tw.ev_mDnew, Tw.ev_gL, Tw.A.ow, Tw.zq00, Tw.zq01, Tw.ev_th_nx, Tw.ev_th_rt, Tw.ev_lp_nx, Tw.ev_lp_rt, Tw.ev_noXf, Tw.fp_nx, Tw.fp_rt, Tw.fp_seq, Tw.sq_ap, Tw.anyC, Tw.inE_nil, Tw.inE_cons, Tw.cB_some, Tw.cB_none, Tw.cB_od_rf, Tw.cB_od_nest, Tw.cB_od_nestK, Tw.isRf, Tw.isNest, Tw.isIo, Tw.Ow.dt, Tw.mutL, Tw.mDisp])
  | `(tactic| simp! only [$xs,*]) => `(tactic| simp only [Tw.owAt, Tw.Ow.sub, Tw.A.val, Tw.Ow.lst?, Tw.A.lstT?, Tw.A.lst?, Tw.A.tup?, Tw.vA, Tw.ev_mVar, Tw.ev_mC, Tw.ev_mNil, Tw.ek_mCons_1, Tw.ek_mCons_0, Tw.ev_mCons, Tw.frzA, Tw.ek_mD_0, Tw.ev_mD, Tw.ek_mOp_1, Tw.ek_mOp_0, Tw.ev_mOp, Tw.ek_mU_0, Tw.ev_mU, Tw.ek_mCB_0, Tw.ev_mCB, Tw.ev_fl2, Tw.ev_fl1, Tw.tstA, Tw.ev_mTst, Tw.ek_mAnd_0, Tw.ev_mAnd, Tw.ek_mOr_0, Tw.ev_mOr, Tw.ek_mNot_0, Tw.ev_mNot, Tw.ev_mYes, Tw.ek_mIfE_0, Tw.ev_mIfE, Tw.ek_mAndE_0, Tw.ev_mAndE, Tw.ek_mOrE_0, Tw.ev_mOrE, Tw.ek_mNotE_0, Tw.ev_mNotE, Tw.ev_setOk, Tw.nIo0, Tw.nIo1, Tw.nIo_d, Tw.nIo_own, Tw.nIo_io, Tw.nIo_rf, Tw.nIo_sc, Tw.nIo_q, Tw.nIo_od, Tw.od_none, Tw.od_some, Tw.ev_gN, Tw.gTs, Tw.ev_gT, Tw.ek_mAsg_0, Tw.ev_mAsg, Tw.ek_mDrop_0, Tw.ev_mDrop, Tw.ek_mIfS_0, Tw.ev_mIfS, Tw.ek_mRet_0, Tw.ev_mRet, Tw.ev_mRetN, Tw.ev_mNext, Tw.ev_mBrk, Tw.ev_mCt, Tw.ev_mNever, Tw.kdQ, Tw.wipeE, Tw.wipeOk_nil, Tw.wipeOk_cons, Tw.Rs.noX, Tw.backA, Tw.backs, Tw.retA, Tw.tupD, Tw.tupAll, Tw.Ow.tup, Tw.A.tup, Tw.A.ioTup, Tw.cvA, Tw.cvAs, Tw.ioS, Tw.brS, Tw.agOk, Tw.setOw, Tw.setIo, Tw.doCall, Tw.ek_mCall_0, Tw.ev_mCall, Tw.d2, Tw.ev_addA, Tw.ev_mulA, Tw.subD, Tw.divD, Tw.modD, Tw.powD, Tw.negD, Tw.ltD, Tw.leD, Tw.gtD, Tw.geD, Tw.isNoneD, Tw.isD, Tw.notD, Tw.seqD, Tw.dAll, Tw.ek_mTup_0, Tw.ev_mTup, Tw.ek_mLst_0, Tw.ev_mLst, Tw.ev_ixA, Tw.ev_mNoPart, Tw.ek_mPart_0, Tw.ev_mPart, Tw.slA, Tw.ek_mSl_2, Tw.ek_mSl_1, Tw.ek_mSl_0, Tw.ev_mSl, Tw.revA, Tw.revLA, Tw.ev_one, Tw.lenD, Tw.ev_lenA, Tw.ev_tupA, Tw.ev_lstA, Tw.ev_allA, Tw.ev_anyA, Tw.tyD, Tw.ek_mIsi_0, Tw.ev_mIsi, Tw.absD, Tw.intD, Tw.ev_min2A, Tw.ev_max2A, Tw.joinS, Tw.ek_mJoin_0, Tw.ev_mJoin, Tw.isNestK, Tw.reOw, Tw.Ow.put, Tw.setP, Tw.isL, Tw.ek_mMeth_0, Tw.ev_mMeth, Tw.ev_appA, Tw.ev_extA, Tw.ev_insA, Tw.ev_popA, Tw.ev_popAtA, Tw.ek_mTix_0, Tw.ev_mTix, Tw.setLA, Tw.ek_mSetL_2, Tw.ek_mSetL_1, Tw.ek_mSetL_0, Tw.ev_mSetL, Tw.A.seq?, Tw.ek_mSeqI_0, Tw.ev_mSeqI, Tw.ek_mRng1_0, Tw.ev_mRng1, Tw.ek_mRng2_1, Tw.ek_mRng2_0, Tw.ev_mRng2, Tw.ek_mEnT_0, Tw.ev_mEnT, Tw.ek_mEnL_0, Tw.ev_mEnL, Tw.ev_mPure, Tw.isDict, Tw.ev_mPureK, Tw.ev_mPureL, Tw.ev_mKI, Tw.keyD, Tw.dgO, Tw.dgA, Tw.dinA, Tw.isDct, Tw.ek_mDGet2_0, Tw.ev_mDGet2, Tw.keysA, Tw.ownTo, Tw.putO, Tw.wipeK_nil, Tw.wipeK_cons, Tw.wKc_some, Tw.wKc_none, Tw.wKc_od, Tw.putA, Tw.ek_mPut_2, Tw.ek_mPut_1, Tw.ek_mPut_0, Tw.ev_mPut, Tw.ev_appLA, Tw.ev_popLA, Tw.ev_orM, Tw.ev_mNest, Tw.flatM, Tw.pairUp, Tw.ek_mDisp1_1, Tw.ek_mDisp1_0, Tw.ev_mDisp1, Tw.DRs.noX, Tw.ek_mPar_0, Tw.ev_mPar, Tw.ek_mPar3_0, Tw.ev_mPar3, Tw.ek_mChain_1, Tw.ek_mChain_0, Tw.ev_mChain, Tw.ev_mDnew, Tw.ev_gL, Tw.A.ow, Tw.zq00, Tw.zq01, Tw.ev_th_nx, Tw.ev_th_rt, Tw.ev_lp_nx, Tw.ev_lp_rt, Tw.ev_noXf, Tw.fp_nx, Tw.fp_rt, Tw.fp_seq, Tw.sq_ap, Tw.anyC, Tw.inE_nil, Tw.inE_cons, Tw.cB_some, Tw.cB_none, Tw.cB_od_rf, Tw.cB_od_nest, Tw.cB_od_nestK, Tw.isRf, Tw.isNest, Tw.isIo, Tw.Ow.dt, Tw.mutL, Tw.mDisp, $xs,*])
  | `(tactic| simp! only) => `(tactic| simp only [Tw.owAt, Tw.Ow.sub, Tw.A.val, Tw.Ow.lst?, Tw.A.lstT?, Tw.A.lst?, Tw.A.tup?, Tw.vA, Tw.ev_mVar, Tw.ev_mC, Tw.ev_mNil, Tw.ek_mCons_1, Tw.ek_mCons_0, Tw.ev_mCons, Tw.frzA, Tw.ek_mD_0, Tw.ev_mD, Tw.ek_mOp_1, Tw.ek_mOp_0, Tw.ev_mOp, Tw.ek_mU_0, Tw.ev_mU, Tw.ek_mCB_0, Tw.ev_mCB, Tw.ev_fl2, Tw.ev_fl1, Tw.tstA, Tw.ev_mTst, Tw.ek_mAnd_0, Tw.ev_mAnd, Tw.ek_mOr_0, Tw.ev_mOr, Tw.ek_mNot_0, Tw.ev_mNot, Tw.ev_mYes, Tw.ek_mIfE_0, Tw.ev_mIfE, Tw.ek_mAndE_0, Tw.ev_mAndE, Tw.ek_mOrE_0, Tw.ev_mOrE, Tw.ek_mNotE_0, Tw.ev_mNotE, Tw.ev_setOk, Tw.nIo0, Tw.nIo1, Tw.nIo_d, Tw.nIo_own, Tw.nIo_io, Tw.nIo_rf, Tw.nIo_sc, Tw.nIo_q, Tw.nIo_od, Tw.od_none, Tw.od_some, Tw.ev_gN, Tw.gTs, Tw.ev_gT, Tw.ek_mAsg_0, Tw.ev_mAsg, Tw.ek_mDrop_0, Tw.ev_mDrop, Tw.ek_mIfS_0, Tw.ev_mIfS, Tw.ek_mRet_0, Tw.ev_mRet, Tw.ev_mRetN, Tw.ev_mNext, Tw.ev_mBrk, Tw.ev_mCt, Tw.ev_mNever, Tw.kdQ, Tw.wipeE, Tw.wipeOk_nil, Tw.wipeOk_cons, Tw.Rs.noX, Tw.backA, Tw.backs, Tw.retA, Tw.tupD, Tw.tupAll, Tw.Ow.tup, Tw.A.tup, Tw.A.ioTup, Tw.cvA, Tw.cvAs, Tw.ioS, Tw.brS, Tw.agOk, Tw.setOw, Tw.setIo, Tw.doCall, Tw.ek_mCall_0, Tw.ev_mCall, Tw.d2, Tw.ev_addA, Tw.ev_mulA, Tw.subD, Tw.divD, Tw.modD, Tw.powD, Tw.negD, Tw.ltD, Tw.leD, Tw.gtD, Tw.geD, Tw.isNoneD, Tw.isD, Tw.notD, Tw.seqD, Tw.dAll, Tw.ek_mTup_0, Tw.ev_mTup, Tw.ek_mLst_0, Tw.ev_mLst, Tw.ev_ixA, Tw.ev_mNoPart, Tw.ek_mPart_0, Tw.ev_mPart, Tw.slA, Tw.ek_mSl_2, Tw.ek_mSl_1, Tw.ek_mSl_0, Tw.ev_mSl, Tw.revA, Tw.revLA, Tw.ev_one, Tw.lenD, Tw.ev_lenA, Tw.ev_tupA, Tw.ev_lstA, Tw.ev_allA, Tw.ev_anyA, Tw.tyD, Tw.ek_mIsi_0, Tw.ev_mIsi, Tw.absD, Tw.intD, Tw.ev_min2A, Tw.ev_max2A, Tw.joinS, Tw.ek_mJoin_0, Tw.ev_mJoin, Tw.isNestK, Tw.reOw, Tw.Ow.put, Tw.setP, Tw.isL, Tw.ek_mMeth_0, Tw.ev_mMeth, Tw.ev_appA, Tw.ev_extA, Tw.ev_insA, Tw.ev_popA, Tw.ev_popAtA, Tw.ek_mTix_0, Tw.ev_mTix, Tw.setLA, Tw.ek_mSetL_2, Tw.ek_mSetL_1, Tw.ek_mSetL_0, Tw.ev_mSetL, Tw.A.seq?, Tw.ek_mSeqI_0, Tw.ev_mSeqI, Tw.ek_mRng1_0, Tw.ev_mRng1, Tw.ek_mRng2_1, Tw.ek_mRng2_0, Tw.ev_mRng2, Tw.ek_mEnT_0, Tw.ev_mEnT, Tw.ek_mEnL_0, Tw.ev_mEnL, Tw.ev_mPure, Tw.isDict, Tw.ev_mPureK, Tw.ev_mPureL, Tw.ev_mKI, Tw.keyD, Tw.dgO, Tw.dgA, Tw.dinA, Tw.isDct, Tw.ek_mDGet2_0, Tw.ev_mDGet2, Tw.keysA, Tw.ownTo, Tw.putO, Tw.wipeK_nil, Tw.wipeK_cons, Tw.wKc_some, Tw.wKc_none, Tw.wKc_od, Tw.putA, Tw.ek_mPut_2, Tw.ek_mPut_1, Tw.ek_mPut_0, Tw.ev_mPut, Tw.ev_appLA, Tw.ev_popLA, Tw.ev_orM, Tw.ev_mNest, Tw.flatM, Tw.pairUp, Tw.ek_mDisp1_1, Tw.ek_mDisp1_0, Tw.ev_mDisp1, Tw.DRs.noX, Tw.ek_mPar_0, Tw.ev_mPar, Tw.ek_mPar3_0, Tw.ev_mPar3, Tw.ek_mChain_1, Tw.ek_mChain_0, Tw.ev_mChain, Tw.ev_mDnew, Tw.ev_gL, Tw.A.ow, Tw.zq00, Tw.zq01, Tw.ev_th_nx, Tw.ev_th_rt, Tw.ev_lp_nx, Tw.ev_lp_rt, Tw.ev_noXf, Tw.fp_nx, Tw.fp_rt, Tw.fp_seq, Tw.sq_ap, Tw.anyC, Tw.inE_nil, Tw.inE_cons, Tw.cB_some, Tw.cB_none, Tw.cB_od_rf, Tw.cB_od_nest, Tw.cB_od_nestK, Tw.isRf, Tw.isNest, Tw.isIo, Tw.Ow.dt, Tw.mutL, Tw.mDisp])
namespace Tw
open PySem PySem.Spec PyProof.Rows L2

end Tw
namespace Tw
open PySem PySem.Spec PyProof.Rows L2
def topS (i : Nat) : Stmt := PySem.Challenge.pw_twigscripts_k71_known_numbers_of_moves.main.body.getD i (.Pass ⟨0, 0, 0, 0⟩)
abbrev s_chainL : Stmt := topS 22
abbrev s_deckL : Stmt := topS 18
abbrev s_drawL : Stmt := topS 19
abbrev s_nameL : Stmt := topS 20
abbrev s_namesL : Stmt := topS 21
abbrev s_begin_of : Stmt := topS 1
abbrev s_end_of : Stmt := topS 2
abbrev s_row_of : Stmt := topS 7
abbrev s_names_of : Stmt := topS 8
abbrev s_require_alike : Stmt := topS 11
abbrev s_places : Stmt := topS 13
abbrev s_all_parents : Stmt := topS 9
abbrev s_staying : Stmt := topS 12
abbrev s_lengths : Stmt := topS 14
abbrev s_resting : Stmt := topS 15
abbrev s_least_moves : Stmt := topS 16
abbrev s_law : Stmt := topS 23
def dd_chainL : He.DefD := ⟨("_law_chain", none), "_law_chain", "_law_chain", defArgs s_chainL, defBody s_chainL, defScope s_chainL, [], []⟩
def dd_deckL : He.DefD := ⟨("_law_deck", none), "_law_deck", "_law_deck", defArgs s_deckL, defBody s_deckL, defScope s_deckL, [], []⟩
def dd_drawL : He.DefD := ⟨("_law_draw", none), "_law_draw", "_law_draw", defArgs s_drawL, defBody s_drawL, defScope s_drawL, [], []⟩
def dd_nameL : He.DefD := ⟨("_law_name", none), "_law_name", "_law_name", defArgs s_nameL, defBody s_nameL, defScope s_nameL, [], []⟩
def dd_namesL : He.DefD := ⟨("_law_names", none), "_law_names", "_law_names", defArgs s_namesL, defBody s_namesL, defScope s_namesL, [], []⟩
def dd_begin_of : He.DefD := ⟨("begin_of", none), "begin_of", "begin_of", defArgs s_begin_of, defBody s_begin_of, defScope s_begin_of, [], []⟩
def dd_end_of : He.DefD := ⟨("end_of", none), "end_of", "end_of", defArgs s_end_of, defBody s_end_of, defScope s_end_of, [], []⟩
def dd_row_of : He.DefD := ⟨("row_of", none), "row_of", "row_of", defArgs s_row_of, defBody s_row_of, defScope s_row_of, [], []⟩
def dd_names_of : He.DefD := ⟨("names_of", none), "names_of", "names_of", defArgs s_names_of, defBody s_names_of, defScope s_names_of, [], []⟩
def dd_require_alike : He.DefD := ⟨("require_alike", none), "require_alike", "require_alike", defArgs s_require_alike, defBody s_require_alike, defScope s_require_alike, [], []⟩
def dd_places : He.DefD := ⟨("places", none), "places", "places", defArgs s_places, defBody s_places, defScope s_places, [], []⟩
def dd_all_parents : He.DefD := ⟨("all_parents", none), "all_parents", "all_parents", defArgs s_all_parents, defBody s_all_parents, defScope s_all_parents, [], []⟩
def dd_staying : He.DefD := ⟨("staying", none), "staying", "staying", defArgs s_staying, defBody s_staying, defScope s_staying, [], []⟩
def dd_lengths : He.DefD := ⟨("lengths", none), "lengths", "lengths", defArgs s_lengths, defBody s_lengths, defScope s_lengths, [], []⟩
def dd_resting : He.DefD := ⟨("resting", none), "resting", "resting", defArgs s_resting, defBody s_resting, defScope s_resting, [], []⟩
def dd_least_moves : He.DefD := ⟨("least_moves", none), "least_moves", "least_moves", defArgs s_least_moves, defBody s_least_moves, defScope s_least_moves, [], []⟩
def dd_law : He.DefD := ⟨("law", none), "law", "law", defArgs s_law, defBody s_law, defScope s_law, [], []⟩
def fnD : List He.DefD := [dd_chainL, dd_deckL, dd_drawL, dd_nameL, dd_namesL, dd_begin_of, dd_end_of, dd_row_of, dd_names_of, dd_require_alike, dd_places, dd_all_parents, dd_staying, dd_lengths, dd_resting, dd_least_moves, dd_law]
def faD : List He.Fa := [.glo "_law_chain", .glo "_law_deck", .glo "_law_draw", .glo "_law_name", .glo "_law_names", .glo "begin_of", .glo "end_of", .glo "row_of", .glo "names_of", .glo "require_alike", .glo "places", .glo "all_parents", .glo "staying", .glo "lengths", .glo "resting", .glo "least_moves", .glo "law", .free "abs", .free "enumerate", .free "int", .free "isinstance", .free "len", .free "list", .free "min", .free "range", .free "sorted", .free "str", .free "tuple"]
def chkD (K : PySem.W.Frag) : Bool := true
abbrev RR : PySem.W.OpenRow := PySem.W.OpenLaw.row PySem.Challenge.rw_twigscripts_k71_known_numbers_of_moves
abbrev hkD : PySem.W.Hook := hookX 5 chkD faD fnD
def obD (s : PySem.W.SharedT) : AlX := obsXG 5 chkD faD fnD (HandSHeadRun.getT s)
def looseD : List Str := [("begin_of" : Str), ("end_of" : Str), ("TwigError" : Str), ("Unlike" : Str), ("row_of" : Str), ("names_of" : Str), ("all_parents" : Str), ("require_alike" : Str), ("staying" : Str), ("places" : Str), ("lengths" : Str), ("resting" : Str), ("least_moves" : Str), ("_law_deck" : Str), ("_law_draw" : Str), ("_law_name" : Str), ("_law_names" : Str), ("_law_chain" : Str)]
theorem runD (w : World) : HandSHeadRun.RunEq RR (PySem.W.view RR.prog [23]) hkD obD 4000 looseD w := by
  intro os
  kernel_rfl
end Tw
namespace Tw
open PySem PySem.Spec PyProof.Rows L2

/-- slots of _law_chain: 0 _law_names_here, 1 _law_wood, 2 _law_name_here -/
def n_chainL : List Str := ["_law_names_here", "_law_wood", "_law_name_here"]
def t_chainL (K : KW) : TS :=
  (tSeq (tAsg (tTupF tNil) (gName 1))
    (tSeq (tFor (iSeq K (tRevL K (tVar 0))) (gName 2) (tAsg (tTupF (tCons (tTupF (tCons (tVar 2) (tCons (tVar 1) tNil))) tNil)) (gName 1)))
    (tRet (tVar 1))))
noncomputable def m_chainL : MS :=
  (mSeq (mAsg (mTup mNil) (gN 1))
    (mSeq (mFor .d (mSeqI (mD (mU revLA (mVar 0)))) (gN 2) (mAsg (mTup (mCons (mTup (mCons (mD (mVar 2)) (mCons (mD (mVar 1)) mNil))) mNil)) (gN 1)))
    (mRet (mVar 1))))
theorem ss_chainL {K : KW} {B : Bs} {W : WX} : SS K B W (t_chainL K) (m_chainL) :=
  (ss_seq (ss_asg (se_tup sa_nil) (sg_name _))
    (ss_seq (ss_for (si_seq (se_D (se_revL (se_var _)))) (sg_name _) (ss_asg (se_tup (sa_cons (se_tup (sa_cons (se_D (se_var _)) (sa_cons (se_D (se_var _)) sa_nil))) sa_nil)) (sg_name _)))
    (ss_ret (se_var _))))
noncomputable def f_chainL : DF := runM 3 m_chainL

/-- slots of _law_deck: 0 _law_script, 1 _law_great, 2 _law_mixed, 3 _law_cell, 4 _law_more -/
def n_deckL : List Str := ["_law_script", "_law_great", "_law_mixed", "_law_cell", "_law_more"]
def t_deckL (K : KW) : TS :=
  (tSeq (tPar 1 2 (tCons (tC (.int 0)) (tCons (tOp (rAddU K) (tC (.int 2917)) (tOp rMulU (tC (.int 41)) (tCB (rLenU K) (tCons (tVar 0) tNil)))) tNil)))
    (tSeq (tFor (iSeq K (tSl (rSlU K) (tVar 0) tNoPart (tPart (tC (.int 60))))) (gName 3) (tSeq (tAsg (tOp (rAddU K) (tOp (rAddU K) (tOp rMulU (tC (.int 2)) (tCB rAbs (tCons (tVar 3) tNil))) (tCB rInt1 (tCons (tOp rLtU (tVar 3) (tC (.int 0))) tNil))) (tC (.int 1))) (gName 4))
    (tSeq (tAsg (tOp rModI (tCB rInt1 (tCons (tOp (rAddU K) (tOp rMulU (tVar 2) (tC (.int 6364136223846793005))) (tVar 4)) tNil)) (tC (.int 2305843009213693951))) (gName 2))
    (tIfS (tTest (tOp rGeI (tCB rAbs (tCons (tVar 3) tNil)) (tOp rPowI (tC (.int 10)) (tC (.int 18))))) (tAsg (tOp (rAddU K) (tOp rMulU (tVar 1) (tC (.int 37))) (tCB rAbs (tCons (tVar 3) tNil))) (gName 1)) tNext))))
    (tRet (tLst (tCons (tVar 1) (tCons (tVar 2) (tCons (tC (.int 0)) tNil)))))))
noncomputable def m_deckL : MS :=
  (mSeq (mPar 1 2 (mCons (mC (.int 0)) (mCons (mOp addA (mC (.int 2917)) (mOp mulA (mC (.int 41)) (mCB (one lenA) (mCons (mVar 0) mNil)))) mNil)))
    (mSeq (mFor .d (mSeqI (mD (mSl (mVar 0) mNoPart (mPart (mC (.int 60)))))) (gN 3) (mSeq (mAsg (mOp addA (mOp addA (mOp mulA (mC (.int 2)) (mCB (one (fl1 absD)) (mCons (mVar 3) mNil))) (mCB (one (fl1 intD)) (mCons (mOp (fl2 ltD) (mVar 3) (mC (.int 0))) mNil))) (mC (.int 1))) (gN 4))
    (mSeq (mAsg (mOp (fl2 modD) (mCB (one (fl1 intD)) (mCons (mOp addA (mOp mulA (mVar 2) (mC (.int 6364136223846793005))) (mVar 4)) mNil)) (mC (.int 2305843009213693951))) (gN 2))
    (mIfS (mTst (mOp (fl2 geD) (mCB (one (fl1 absD)) (mCons (mVar 3) mNil)) (mOp (fl2 powD) (mC (.int 10)) (mC (.int 18))))) (mAsg (mOp addA (mOp mulA (mVar 1) (mC (.int 37))) (mCB (one (fl1 absD)) (mCons (mVar 3) mNil))) (gN 1)) mNext))))
    (mRet (mLst (mCons (mD (mVar 1)) (mCons (mD (mVar 2)) (mCons (mC (.int 0)) mNil)))))))
theorem ss_deckL {K : KW} {B : Bs} {W : WX} : SS K B W (t_deckL K) (m_deckL) :=
  (ss_seq (ss_par (sa_cons (se_int _) (sa_cons (se_op so_add (se_int _) (se_op so_mul (se_int _) (se_cb (soa_one so1_len) (sa_cons (se_var _) sa_nil)))) sa_nil)) (by decide))
    (ss_seq (ss_for (si_seq (se_D (se_sl (se_var _) so_none (so_part (se_int _))))) (sg_name _) (ss_seq (ss_asg (se_op so_add (se_op so_add (se_op so_mul (se_int _) (se_cb (soa_one (so1_fl us_abs)) (sa_cons (se_var _) sa_nil))) (se_cb (soa_one (so1_fl us_int)) (sa_cons (se_op (so2_fl os_lt) (se_var _) (se_int _)) sa_nil))) (se_int _)) (sg_name _))
    (ss_seq (ss_asg (se_op (so2_fl os_mod) (se_cb (soa_one (so1_fl us_int)) (sa_cons (se_op so_add (se_op so_mul (se_var _) (se_int _)) (se_var _)) sa_nil)) (se_int _)) (sg_name _))
    (ss_if (st_Test (se_op (so2_fl os_ge) (se_cb (soa_one (so1_fl us_abs)) (sa_cons (se_var _) sa_nil)) (se_op (so2_fl os_pow) (se_int _) (se_int _)))) (ss_asg (se_op so_add (se_op so_mul (se_var _) (se_int _)) (se_cb (soa_one (so1_fl us_abs)) (sa_cons (se_var _) sa_nil))) (sg_name _)) ss_next))))
    (ss_ret (se_lst (sa_cons (se_D (se_var _)) (sa_cons (se_D (se_var _)) (sa_cons (se_int _) sa_nil)))))))
noncomputable def f_deckL : DF := runM 5 m_deckL

/-- slots of _law_draw: 0 _law_deck_here, 1 _law_many, 2 _law_digit, 3 _law_mixed -/
def n_drawL : List Str := ["_law_deck_here", "_law_many", "_law_digit", "_law_mixed"]
def t_drawL (K : KW) : TS :=
  (tSeq (tIfS (tTest (tOp rGtI (tOp (rIx K) (tVar 0) (tC (.int 0))) (tC (.int 0)))) (tSeq (tAsg (tOp rModI (tCB rInt1 (tCons (tOp (rIx K) (tVar 0) (tC (.int 0))) tNil)) (tVar 1)) (gName 2))
    (tSeq (tAsg (tOp rDivI (tOp (rIx K) (tVar 0) (tC (.int 0))) (tVar 1)) (gSub (tVar 0) (tC (.int 0)) rSetL))
    (tRet (tVar 2)))) tNext)
    (tSeq (tAsg (tOp (rAddU K) (tOp (rIx K) (tVar 0) (tC (.int 2))) (tC (.int 1))) (gSub (tVar 0) (tC (.int 2)) rSetL))
    (tSeq (tAsg (tOp rModI (tCB rInt1 (tCons (tOp (rAddU K) (tOp (rIx K) (tVar 0) (tC (.int 1))) (tOp rMulU (tC (.int 11400714819323198485)) (tOp (rIx K) (tVar 0) (tC (.int 2))))) tNil)) (tC (.int 18446744073709551557))) (gName 3))
    (tSeq (tAsg (tOp rModI (tCB rInt1 (tCons (tOp rMulU (tVar 3) (tOp (rAddU K) (tOp rModI (tVar 3) (tC (.int 4294967291))) (tC (.int 7)))) tNil)) (tC (.int 2305843009213693951))) (gName 3))
    (tRet (tOp rModI (tOp rDivI (tOp rModI (tCB rInt1 (tCons (tOp rMulU (tVar 3) (tVar 3)) tNil)) (tC (.int 2305843009213693921))) (tC (.int 2048))) (tVar 1)))))))
noncomputable def m_drawL : MS :=
  (mSeq (mIfS (mTst (mOp (fl2 gtD) (mOp ixA (mVar 0) (mC (.int 0))) (mC (.int 0)))) (mSeq (mAsg (mOp (fl2 modD) (mCB (one (fl1 intD)) (mCons (mOp ixA (mVar 0) (mC (.int 0))) mNil)) (mVar 1)) (gN 2))
    (mSeq (mSetL (mD (mOp (fl2 divD) (mOp ixA (mVar 0) (mC (.int 0))) (mVar 1))) (mVar 0) (mC (.int 0)))
    (mRet (mVar 2)))) mNext)
    (mSeq (mSetL (mD (mOp addA (mOp ixA (mVar 0) (mC (.int 2))) (mC (.int 1)))) (mVar 0) (mC (.int 2)))
    (mSeq (mAsg (mOp (fl2 modD) (mCB (one (fl1 intD)) (mCons (mOp addA (mOp ixA (mVar 0) (mC (.int 1))) (mOp mulA (mC (.int 11400714819323198485)) (mOp ixA (mVar 0) (mC (.int 2))))) mNil)) (mC (.int 18446744073709551557))) (gN 3))
    (mSeq (mAsg (mOp (fl2 modD) (mCB (one (fl1 intD)) (mCons (mOp mulA (mVar 3) (mOp addA (mOp (fl2 modD) (mVar 3) (mC (.int 4294967291))) (mC (.int 7)))) mNil)) (mC (.int 2305843009213693951))) (gN 3))
    (mRet (mOp (fl2 modD) (mOp (fl2 divD) (mOp (fl2 modD) (mCB (one (fl1 intD)) (mCons (mOp mulA (mVar 3) (mVar 3)) mNil)) (mC (.int 2305843009213693921))) (mC (.int 2048))) (mVar 1)))))))
theorem ss_drawL {K : KW} {B : Bs} {W : WX} : SS K B W (t_drawL K) (m_drawL) :=
  (ss_seq (ss_if (st_Test (se_op (so2_fl os_gt) (se_op so_ix (se_var _) (se_int _)) (se_int _))) (ss_seq (ss_asg (se_op (so2_fl os_mod) (se_cb (soa_one (so1_fl us_int)) (sa_cons (se_op so_ix (se_var _) (se_int _)) sa_nil)) (se_var _)) (sg_name _))
    (ss_seq (ss_setL (se_D (se_op (so2_fl os_div) (se_op so_ix (se_var _) (se_int _)) (se_var _))) (se_var _) (se_int _))
    (ss_ret (se_var _)))) ss_next)
    (ss_seq (ss_setL (se_D (se_op so_add (se_op so_ix (se_var _) (se_int _)) (se_int _))) (se_var _) (se_int _))
    (ss_seq (ss_asg (se_op (so2_fl os_mod) (se_cb (soa_one (so1_fl us_int)) (sa_cons (se_op so_add (se_op so_ix (se_var _) (se_int _)) (se_op so_mul (se_int _) (se_op so_ix (se_var _) (se_int _)))) sa_nil)) (se_int _)) (sg_name _))
    (ss_seq (ss_asg (se_op (so2_fl os_mod) (se_cb (soa_one (so1_fl us_int)) (sa_cons (se_op so_mul (se_var _) (se_op so_add (se_op (so2_fl os_mod) (se_var _) (se_int _)) (se_int _))) sa_nil)) (se_int _)) (sg_name _))
    (ss_ret (se_op (so2_fl os_mod) (se_op (so2_fl os_div) (se_op (so2_fl os_mod) (se_cb (soa_one (so1_fl us_int)) (sa_cons (se_op so_mul (se_var _) (se_var _)) sa_nil)) (se_int _)) (se_int _)) (se_var _)))))))
noncomputable def f_drawL : DF := runM 4 m_drawL

/-- slots of _law_name: 0 _law_deck_here, 1 _law_letters, 2 _law_k -/
def n_nameL : List Str := ["_law_deck_here", "_law_letters", "_law_k"]
def t_nameL (K : KW) : TS :=
  (tSeq (tAsg (tC (.str "abcdefghijklmnopqrstuvwxyz")) (gName 1))
    (tRet (tM1 (rJoin K) (tC (.str "")) (tLc (iRng1 (tCons (tOp (rAddU K) (tC (.int 1)) (tCall (spN K f_drawL 2) [] E0 (tCons (tVar 0) (tCons (tC (.int 8)) tNil)))) tNil)) (gName 2) tYes (tOp (rIx K) (tVar 1) (tCall (spN K f_drawL 2) [] E0 (tCons (tVar 0) (tCons (tC (.int 26)) tNil)))) [2]))))
noncomputable def m_nameL : MS :=
  (mSeq (mAsg (mC (.str "abcdefghijklmnopqrstuvwxyz")) (gN 1))
    (mRet (mJoin (mC (.str "")) (mLc .d (mRng1 (mOp addA (mC (.int 1)) (mCall (noXf f_drawL) [true, false] (mCons (mVar 0) (mCons (mC (.int 8)) mNil))))) (gN 2) mYes (mD (mOp ixA (mVar 1) (mCall (noXf f_drawL) [true, false] (mCons (mVar 0) (mCons (mC (.int 26)) mNil))))) [2]))))
theorem ss_nameL {K : KW} {B : Bs} {W : WX} : SS K B W (t_nameL K) (m_nameL) :=
  (ss_seq (ss_asg (se_str _ (by decide +kernel)) (sg_name _))
    (ss_ret (se_join (se_str _ (by decide +kernel)) (se_lc (si_rng1 (se_op so_add (se_int _) (se_call0 rfl (sa_cons (se_var _) (sa_cons (se_int _) sa_nil))))) (sgw_name _ (by decide)) st_yes (se_D (se_op so_ix (se_var _) (se_call0 rfl (sa_cons (se_var _) (sa_cons (se_int _) sa_nil)))))))))
noncomputable def f_nameL : DF := runM 3 m_nameL

/-- slots of _law_names: 0 _law_deck_here, 1 _law_many, 2 _law_letters, 3 _law_spare, 4 _law_way, 5 _law_base, 6 _law_place, 7 _law_at, 8 _law_names_here, 9 _law_k, 10 _law_kind, 11 _law_name_here -/
def n_namesL : List Str := ["_law_deck_here", "_law_many", "_law_letters", "_law_spare", "_law_way", "_law_base", "_law_place", "_law_at", "_law_names_here", "_law_k", "_law_kind", "_law_name_here"]
def t_namesL (K : KW) : TS :=
  (tSeq (tAsg (tC (.str "abcdefghijklmnopqrstuvwxyz")) (gName 2))
    (tSeq (tAsg (tLc (iRng1 (tCons (tC (.int 676)) tNil)) (gName 9) tYes (tOp (rAddU K) (tOp (rIx K) (tVar 2) (tOp rDivI (tVar 9) (tC (.int 26)))) (tOp (rIx K) (tVar 2) (tOp rModI (tVar 9) (tC (.int 26))))) [9]) (gName 3))
    (tSeq (tPar 4 5 (tCons (tCall (spN K f_drawL 2) [] E0 (tCons (tVar 0) (tCons (tC (.int 4)) tNil))) (tCons (tSl (rSlU K) (tOp rMulU (tCall (spN K f_nameL 1) [] E0 (tCons (tVar 0) tNil)) (tC (.int 8))) tNoPart (tPart (tC (.int 8)))) tNil)))
    (tSeq (tPar3 6 7 8 (tCons (tCall (spN K f_drawL 2) [] E0 (tCons (tVar 0) (tCons (tC (.int 8)) tNil))) (tCons (tC (.int 0)) (tCons (tLst tNil) tNil))))
    (tSeq (tFor (iRng1 (tCons (tVar 1) tNil)) (gName 9) (tSeq (tAsg (tIf (tTest (tOp (rEqU K) (tVar 4) (tC (.int 3)))) (tCall (spN K f_drawL 2) [] E0 (tCons (tVar 0) (tCons (tC (.int 3)) tNil))) (tVar 4)) (gName 10))
    (tSeq (tIfS (tTest (tOp (rEqU K) (tVar 10) (tC (.int 0)))) (tAsg (tCall (spN K f_nameL 1) [] E0 (tCons (tVar 0) tNil)) (gName 11)) (tIfS (tTest (tOp (rEqU K) (tVar 10) (tC (.int 1)))) (tAsg (tOp (rAddU K) (tOp (rAddU K) (tSl (rSlU K) (tVar 5) tNoPart (tPart (tVar 6))) (tOp (rIx K) (tVar 2) (tCall (spN K f_drawL 2) [] E0 (tCons (tVar 0) (tCons (tC (.int 26)) tNil))))) (tSl (rSlU K) (tVar 5) (tPart (tOp (rAddU K) (tVar 6) (tC (.int 1)))) tNoPart)) (gName 11)) (tAsg (tSl (rSlU K) (tVar 5) tNoPart (tPart (tOp (rAddU K) (tC (.int 1)) (tCall (spN K f_drawL 2) [] E0 (tCons (tVar 0) (tCons (tC (.int 8)) tNil)))))) (gName 11))))
    (tSeq (tWhile (tTest (tOp (rInU K false) (tVar 11) (tVar 8))) (tSeq (tAsg (tOp (rIx K) (tVar 3) (tVar 7)) (gName 11))
    (tAsg (tOp (rAddU K) (tVar 7) (tC (.int 1))) (gName 7))))
    (tDrop (tBM K "list" rAppend (tVar 8) (tCons (tVar 11) tNil)))))))
    (tRet (tVar 8)))))))
noncomputable def m_namesL : MS :=
  (mSeq (mAsg (mC (.str "abcdefghijklmnopqrstuvwxyz")) (gN 2))
    (mSeq (mAsg (mLc .d (mRng1 (mC (.int 676))) (gN 9) mYes (mD (mOp addA (mOp ixA (mVar 2) (mOp (fl2 divD) (mVar 9) (mC (.int 26)))) (mOp ixA (mVar 2) (mOp (fl2 modD) (mVar 9) (mC (.int 26)))))) [9]) (gN 3))
    (mSeq (mPar 4 5 (mCons (mCall (noXf f_drawL) [true, false] (mCons (mVar 0) (mCons (mC (.int 4)) mNil))) (mCons (mSl (mOp mulA (mCall (noXf f_nameL) [true] (mCons (mVar 0) mNil)) (mC (.int 8))) mNoPart (mPart (mC (.int 8)))) mNil)))
    (mSeq (mPar3 6 7 8 (mCons (mCall (noXf f_drawL) [true, false] (mCons (mVar 0) (mCons (mC (.int 8)) mNil))) (mCons (mC (.int 0)) (mCons (mLst mNil) mNil))))
    (mSeq (mFor .d (mRng1 (mVar 1)) (gN 9) (mSeq (mAsg (mIfE (mTst (mOp (fl2 eqD) (mVar 4) (mC (.int 3)))) (mCall (noXf f_drawL) [true, false] (mCons (mVar 0) (mCons (mC (.int 3)) mNil))) (mVar 4)) (gN 10))
    (mSeq (mIfS (mTst (mOp (fl2 eqD) (mVar 10) (mC (.int 0)))) (mAsg (mCall (noXf f_nameL) [true] (mCons (mVar 0) mNil)) (gN 11)) (mIfS (mTst (mOp (fl2 eqD) (mVar 10) (mC (.int 1)))) (mAsg (mOp addA (mOp addA (mSl (mVar 5) mNoPart (mPart (mVar 6))) (mOp ixA (mVar 2) (mCall (noXf f_drawL) [true, false] (mCons (mVar 0) (mCons (mC (.int 26)) mNil))))) (mSl (mVar 5) (mPart (mOp addA (mVar 6) (mC (.int 1)))) mNoPart)) (gN 11)) (mAsg (mSl (mVar 5) mNoPart (mPart (mOp addA (mC (.int 1)) (mCall (noXf f_drawL) [true, false] (mCons (mVar 0) (mCons (mC (.int 8)) mNil)))))) (gN 11))))
    (mSeq (mWhile (mTst (mOp (fl2 (inD false)) (mVar 11) (mVar 8))) (mSeq (mAsg (mOp ixA (mVar 3) (mVar 7)) (gN 11))
    (mAsg (mOp addA (mVar 7) (mC (.int 1))) (gN 7))))
    (mDrop (mMeth appA (mVar 8) (mCons (mD (mVar 11)) mNil)))))))
    (mRet (mVar 8)))))))
theorem ss_namesL {K : KW} {B : Bs} {W : WX} : SS K B W (t_namesL K) (m_namesL) :=
  (ss_seq (ss_asg (se_str _ (by decide +kernel)) (sg_name _))
    (ss_seq (ss_asg (se_lc (si_rng1 (se_int _)) (sgw_name _ (by decide)) st_yes (se_D (se_op so_add (se_op so_ix (se_var _) (se_op (so2_fl os_div) (se_var _) (se_int _))) (se_op so_ix (se_var _) (se_op (so2_fl os_mod) (se_var _) (se_int _)))))) (sg_name _))
    (ss_seq (ss_par (sa_cons (se_call0 rfl (sa_cons (se_var _) (sa_cons (se_int _) sa_nil))) (sa_cons (se_sl (se_op so_mul (se_call0 rfl (sa_cons (se_var _) sa_nil)) (se_int _)) so_none (so_part (se_int _))) sa_nil)) (by decide))
    (ss_seq (ss_par3 (sa_cons (se_call0 rfl (sa_cons (se_var _) (sa_cons (se_int _) sa_nil))) (sa_cons (se_int _) (sa_cons (se_lst sa_nil) sa_nil))) (by decide) (by decide) (by decide))
    (ss_seq (ss_for (si_rng1 (se_var _)) (sg_name _) (ss_seq (ss_asg (se_if (st_Test (se_op (so2_fl os_eq) (se_var _) (se_int _))) (se_call0 rfl (sa_cons (se_var _) (sa_cons (se_int _) sa_nil))) (se_var _)) (sg_name _))
    (ss_seq (ss_if (st_Test (se_op (so2_fl os_eq) (se_var _) (se_int _))) (ss_asg (se_call0 rfl (sa_cons (se_var _) sa_nil)) (sg_name _)) (ss_if (st_Test (se_op (so2_fl os_eq) (se_var _) (se_int _))) (ss_asg (se_op so_add (se_op so_add (se_sl (se_var _) so_none (so_part (se_var _))) (se_op so_ix (se_var _) (se_call0 rfl (sa_cons (se_var _) (sa_cons (se_int _) sa_nil))))) (se_sl (se_var _) (so_part (se_op so_add (se_var _) (se_int _))) so_none)) (sg_name _)) (ss_asg (se_sl (se_var _) so_none (so_part (se_op so_add (se_int _) (se_call0 rfl (sa_cons (se_var _) (sa_cons (se_int _) sa_nil)))))) (sg_name _))))
    (ss_seq (ss_while (st_Test (se_op (so2_fl (os_in false)) (se_var _) (se_var _))) (ss_seq (ss_asg (se_op so_ix (se_var _) (se_var _)) (sg_name _))
    (ss_asg (se_op so_add (se_var _) (se_int _)) (sg_name _))))
    (ss_drop (se_meth sm_app (se_var _) (sa_cons (se_D (se_var _)) sa_nil)))))))
    (ss_ret (se_var _)))))))
noncomputable def f_namesL : DF := runM 12 m_namesL

/-- slots of begin_of: 0 name -/
def n_begin_of : List Str := ["name"]
def t_begin_of (K : KW) : TS :=
  (tRet (tOp (rAddU K) (tC (.str "+")) (tVar 0)))
noncomputable def m_begin_of : MS :=
  (mRet (mOp addA (mC (.str "+")) (mVar 0)))
theorem ss_begin_of {K : KW} {B : Bs} {W : WX} : SS K B W (t_begin_of K) (m_begin_of) :=
  (ss_ret (se_op so_add (se_str _ (by decide +kernel)) (se_var _)))
noncomputable def f_begin_of : DF := runM 1 m_begin_of

/-- slots of end_of: 0 name -/
def n_end_of : List Str := ["name"]
def t_end_of (K : KW) : TS :=
  (tRet (tOp (rAddU K) (tC (.str "-")) (tVar 0)))
noncomputable def m_end_of : MS :=
  (mRet (mOp addA (mC (.str "-")) (mVar 0)))
theorem ss_end_of {K : KW} {B : Bs} {W : WX} : SS K B W (t_end_of K) (m_end_of) :=
  (ss_ret (se_op so_add (se_str _ (by decide +kernel)) (se_var _)))
noncomputable def f_end_of : DF := runM 1 m_end_of

/-- slots of row_of: 0 wood, 1 found, 2 waiting, 3 item -/
def n_row_of : List Str := ["wood", "found", "waiting", "item"]
def t_row_of (K : KW) : TS :=
  (tSeq (tAsg (tLst tNil) (gName 1))
    (tSeq (tAsg (tCB (rLstOf K) (tCons (tRevF K (tVar 0)) tNil)) (gName 2))
    (tSeq (tWhile (tTest (tOp (rNeU K) (tVar 2) (tLst tNil))) (tSeq (tAsg (tBM0 K "list" rPop (tVar 2)) (gName 3))
    (tIfS (tB (tCB (rIsi K) (tCons (tVar 3) (tCons (tC (.ty "str")) tNil)))) (tDrop (tBM K "list" rAppend (tVar 1) (tCons (tVar 3) tNil))) (tSeq (tDrop (tBM K "list" rAppend (tVar 1) (tCons (tCall (spN K f_begin_of 1) [] E0 (tCons (tOp (rIx K) (tVar 3) (tC (.int 0))) tNil)) tNil)))
    (tSeq (tDrop (tBM K "list" rAppend (tVar 2) (tCons (tCall (spN K f_end_of 1) [] E0 (tCons (tOp (rIx K) (tVar 3) (tC (.int 0))) tNil)) tNil)))
    (tDrop (tBM K "list" (rExtU K) (tVar 2) (tCons (tRevF K (tOp (rIx K) (tVar 3) (tC (.int 1)))) tNil))))))))
    (tRet (tCB (rTupOfF K) (tCons (tVar 1) tNil))))))
noncomputable def m_row_of : MS :=
  (mSeq (mAsg (mLst mNil) (gN 1))
    (mSeq (mAsg (mCB (one lstA) (mCons (mU revA (mVar 0)) mNil)) (gN 2))
    (mSeq (mWhile (mTst (mOp (fl2 neD) (mVar 2) (mLst mNil))) (mSeq (mAsg (mMeth popA (mVar 2) mNil) (gN 3))
    (mIfS (mTst (mIsi "str" (mVar 3))) (mDrop (mMeth appA (mVar 1) (mCons (mD (mVar 3)) mNil))) (mSeq (mDrop (mMeth appA (mVar 1) (mCons (mD (mCall (noXf f_begin_of) [false] (mCons (mOp ixA (mVar 3) (mC (.int 0))) mNil))) mNil)))
    (mSeq (mDrop (mMeth appA (mVar 2) (mCons (mD (mCall (noXf f_end_of) [false] (mCons (mOp ixA (mVar 3) (mC (.int 0))) mNil))) mNil)))
    (mDrop (mMeth extA (mVar 2) (mCons (mD (mU revA (mOp ixA (mVar 3) (mC (.int 1))))) mNil))))))))
    (mRet (mCB (one tupA) (mCons (mVar 1) mNil))))))
theorem ss_row_of {K : KW} {B : Bs} {W : WX} : SS K B W (t_row_of K) (m_row_of) :=
  (ss_seq (ss_asg (se_lst sa_nil) (sg_name _))
    (ss_seq (ss_asg (se_cb (soa_one so1_lst) (sa_cons (se_revT (se_var _)) sa_nil)) (sg_name _))
    (ss_seq (ss_while (st_Test (se_op (so2_fl os_ne) (se_var _) (se_lst sa_nil))) (ss_seq (ss_asg (se_meth0 sm_pop (se_var _)) (sg_name _))
    (ss_if (st_B (se_isi (se_var _))) (ss_drop (se_meth sm_app (se_var _) (sa_cons (se_D (se_var _)) sa_nil))) (ss_seq (ss_drop (se_meth sm_app (se_var _) (sa_cons (se_D (se_call0 rfl (sa_cons (se_op so_ix (se_var _) (se_int _)) sa_nil))) sa_nil)))
    (ss_seq (ss_drop (se_meth sm_app (se_var _) (sa_cons (se_D (se_call0 rfl (sa_cons (se_op so_ix (se_var _) (se_int _)) sa_nil))) sa_nil)))
    (ss_drop (se_meth sm_ext (se_var _) (sa_cons (se_D (se_revT (se_op so_ix (se_var _) (se_int _)))) sa_nil))))))))
    (ss_ret (se_cb (soa_one so1_tup) (sa_cons (se_var _) sa_nil))))))
noncomputable def f_row_of : DF := runM 4 m_row_of

/-- slots of names_of: 0 wood, 1 end -/
def n_names_of : List Str := ["wood", "end"]
def t_names_of (K : KW) : TS :=
  (tRet (tCB (rTupOfF K) (tCons (tLc (iSeq K (tCall (spN K f_row_of 1) [] E0 (tCons (tVar 0) tNil))) (gName 1) (tTest (tOp (rEqU K) (tOp (rIx K) (tVar 1) (tC (.int 0))) (tC (.str "+")))) (tSl (rSlU K) (tVar 1) (tPart (tC (.int 1))) tNoPart) [1]) tNil)))
noncomputable def m_names_of : MS :=
  (mRet (mCB (one tupA) (mCons (mLc .d (mSeqI (mD (mCall (noXf f_row_of) [false] (mCons (mVar 0) mNil)))) (gN 1) (mTst (mOp (fl2 eqD) (mOp ixA (mVar 1) (mC (.int 0))) (mC (.str "+")))) (mD (mSl (mVar 1) (mPart (mC (.int 1))) mNoPart)) [1]) mNil)))
theorem ss_names_of {K : KW} {B : Bs} {W : WX} : SS K B W (t_names_of K) (m_names_of) :=
  (ss_ret (se_cb (soa_one so1_tup) (sa_cons (se_lc (si_seq (se_D (se_call0 rfl (sa_cons (se_var _) sa_nil)))) (sgw_name _ (by decide)) (st_Test (se_op (so2_fl os_eq) (se_op so_ix (se_var _) (se_int _)) (se_str _ (by decide +kernel)))) (se_D (se_sl (se_var _) (so_part (se_int _)) so_none))) sa_nil)))
noncomputable def f_names_of : DF := runM 2 m_names_of

/-- slots of require_alike: 0 one, 1 other -/
def n_require_alike : List Str := ["one", "other"]
def t_require_alike (K : KW) : TS :=
  (tIfS (tTest (tOp (rNeU K) (tCB (rSortedSA K) (tCons (tCall (spN K f_names_of 1) [] E0 (tCons (tVar 0) tNil)) tNil)) (tCB (rSortedSA K) (tCons (tCall (spN K f_names_of 1) [] E0 (tCons (tVar 1) tNil)) tNil)))) tNever tNext)
noncomputable def m_require_alike : MS :=
  (mIfS (mTst (mOp (fl2 neD) (mCB (one sortTA) (mCons (mCall (noXf f_names_of) [false] (mCons (mVar 0) mNil)) mNil)) (mCB (one sortTA) (mCons (mCall (noXf f_names_of) [false] (mCons (mVar 1) mNil)) mNil)))) mNever mNext)
theorem ss_require_alike {K : KW} {B : Bs} {W : WX} : SS K B W (t_require_alike K) (m_require_alike) :=
  (ss_if (st_Test (se_op (so2_fl os_ne) (se_cb (soa_one so1_sortT) (sa_cons (se_call0 rfl (sa_cons (se_var _) sa_nil)) sa_nil)) (se_cb (soa_one so1_sortT) (sa_cons (se_call0 rfl (sa_cons (se_var _) sa_nil)) sa_nil)))) ss_never ss_next)
noncomputable def f_require_alike : DF := runM 2 m_require_alike

/-- slots of places: 0 wood, 1 place, 2 name -/
def n_places : List Str := ["wood", "place", "name"]
def t_places (K : KW) : TS :=
  (tRet (tDc (iEnumT K (tCons (tCall (spN K f_names_of 1) [] E0 (tCons (tVar 0) tNil)) tNil)) (gTup K 2 (gNames [1, 2])) tYes (tVar 2) (tVar 1) [1, 2]))
noncomputable def m_places : MS :=
  (mRet (mDc kdQ (mEnT (mCall (noXf f_names_of) [false] (mCons (mVar 0) mNil))) (gT [1, 2]) mYes (mD (mVar 2)) (mD (mVar 1)) [1, 2]))
theorem ss_places {K : KW} {B : Bs} {W : WX} : SS K B W (t_places K) (m_places) :=
  (ss_ret (se_dc (si_enT (se_call0 rfl (sa_cons (se_var _) sa_nil))) (sgw_tup _ rfl (by decide)) st_yes (se_D (se_var _)) (se_D (se_var _))))
noncomputable def f_places : DF := runM 3 m_places

/-- slots of all_parents: 0 wood, 1 found, 2 waiting, 3 parent, 4 tree, 5 part -/
def n_all_parents : List Str := ["wood", "found", "waiting", "parent", "tree", "part"]
def t_all_parents (K : KW) : TS :=
  (tSeq (tAsg tDNewK (gName 1))
    (tSeq (tAsg (tLc (iSeq K (tVar 0)) (gName 4) tYes (tTupF (tCons (tC .non) (tCons (tVar 4) tNil))) [4]) (gName 2))
    (tSeq (tWhile (tTest (tOp (rNeU K) (tVar 2) (tLst tNil))) (tSeq (tAsg (tBM0 K "list" rPop (tVar 2)) (gTup K 2 (gNames [3, 4])))
    (tSeq (tDPut (tVar 1) (tOp (rIx K) (tVar 4) (tC (.int 0))) (tVar 3))
    (tDrop (tBM K "list" (rExtU K) (tVar 2) (tCons (tLc (iSeq K (tOp (rIx K) (tVar 4) (tC (.int 1)))) (gName 5) tYes (tTupF (tCons (tOp (rIx K) (tVar 4) (tC (.int 0))) (tCons (tVar 5) tNil))) [5]) tNil))))))
    (tRet (tVar 1)))))
noncomputable def m_all_parents : MS :=
  (mSeq (mAsg mDnew (gN 1))
    (mSeq (mAsg (mLc .d (mSeqI (mVar 0)) (gN 4) mYes (mTup (mCons (mC .none) (mCons (mD (mVar 4)) mNil))) [4]) (gN 2))
    (mSeq (mWhile (mTst (mOp (fl2 neD) (mVar 2) (mLst mNil))) (mSeq (mAsg (mMeth popA (mVar 2) mNil) (gT [3, 4]))
    (mSeq (mPut (mD (mVar 3)) (mVar 1) (mOp ixA (mVar 4) (mC (.int 0))))
    (mDrop (mMeth extA (mVar 2) (mCons (mD (mLc .d (mSeqI (mD (mOp ixA (mVar 4) (mC (.int 1))))) (gN 5) mYes (mTup (mCons (mD (mOp ixA (mVar 4) (mC (.int 0)))) (mCons (mD (mVar 5)) mNil))) [5])) mNil))))))
    (mRet (mVar 1)))))
theorem ss_all_parents {K : KW} {B : Bs} {W : WX} : SS K B W (t_all_parents K) (m_all_parents) :=
  (ss_seq (ss_asg se_dnew (sg_name _))
    (ss_seq (ss_asg (se_lc (si_seq (se_var _)) (sgw_name _ (by decide)) st_yes (se_tup (sa_cons se_non (sa_cons (se_D (se_var _)) sa_nil)))) (sg_name _))
    (ss_seq (ss_while (st_Test (se_op (so2_fl os_ne) (se_var _) (se_lst sa_nil))) (ss_seq (ss_asg (se_meth0 sm_pop (se_var _)) (sg_tup _ rfl))
    (ss_seq (ss_put (se_var _) (se_op so_ix (se_var _) (se_int _)) (se_D (se_var _)))
    (ss_drop (se_meth sm_ext (se_var _) (sa_cons (se_D (se_lc (si_seq (se_D (se_op so_ix (se_var _) (se_int _)))) (sgw_name _ (by decide)) st_yes (se_tup (sa_cons (se_D (se_op so_ix (se_var _) (se_int _))) (sa_cons (se_D (se_var _)) sa_nil))))) sa_nil))))))
    (ss_ret (se_var _)))))
noncomputable def f_all_parents : DF := runM 6 m_all_parents

/-- slots of staying: 0 one, 1 other, 2 here, 3 there, 4 name -/
def n_staying : List Str := ["one", "other", "here", "there", "name"]
def t_staying (K : KW) : TS :=
  (tSeq (tAsg (tTupF (tCons (tCall (spN K f_all_parents 1) [] E0 (tCons (tVar 0) tNil)) (tCons (tCall (spN K f_all_parents 1) [] E0 (tCons (tVar 1) tNil)) tNil))) (gTup K 2 (gNames [2, 3])))
    (tRet (tLc (iSeq K (tCall (spN K f_names_of 1) [] E0 (tCons (tVar 0) tNil))) (gName 4) (tTest (tOp (rEqU K) (tDGet (tVar 2) (tVar 4)) (tDGet (tVar 3) (tVar 4)))) (tTupF (tCons (tVar 4) (tCons (tDGet (tVar 2) (tVar 4)) tNil))) [4])))
noncomputable def m_staying : MS :=
  (mSeq (mPar 2 3 (mCons (mCall (noXf f_all_parents) [false] (mCons (mVar 0) mNil)) (mCons (mCall (noXf f_all_parents) [false] (mCons (mVar 1) mNil)) mNil)))
    (mRet (mLc .d (mSeqI (mD (mCall (noXf f_names_of) [false] (mCons (mVar 0) mNil)))) (gN 4) (mTst (mOp (fl2 eqD) (mOp dgA (mVar 2) (mVar 4)) (mOp dgA (mVar 3) (mVar 4)))) (mTup (mCons (mD (mVar 4)) (mCons (mD (mOp dgA (mVar 2) (mVar 4))) mNil))) [4])))
theorem ss_staying {K : KW} {B : Bs} {W : WX} : SS K B W (t_staying K) (m_staying) :=
  (ss_seq (ss_parT (sa_cons (se_call0 rfl (sa_cons (se_var _) sa_nil)) (sa_cons (se_call0 rfl (sa_cons (se_var _) sa_nil)) sa_nil)) (by decide))
    (ss_ret (se_lc (si_seq (se_D (se_call0 rfl (sa_cons (se_var _) sa_nil)))) (sgw_name _ (by decide)) (st_Test (se_op (so2_fl os_eq) (se_dget (se_var _) (se_var _)) (se_dget (se_var _) (se_var _)))) (se_tup (sa_cons (se_D (se_var _)) (sa_cons (se_D (se_dget (se_var _) (se_var _))) sa_nil))))))
noncomputable def f_staying : DF := runM 5 m_staying

/-- slots of lengths: 0 one, 1 other, 2 there, 3 found, 4 by_parent, 5 name, 6 parent, 7 ahead, 8 best, 9 earlier -/
def n_lengths : List Str := ["one", "other", "there", "found", "by_parent", "name", "parent", "ahead", "best", "earlier"]
def t_lengths (K : KW) : TS :=
  (tSeq (tAsg (tCall (spN K f_places 1) [] E0 (tCons (tVar 1) tNil)) (gName 2))
    (tSeq (tAsg tDNewK (gName 3))
    (tSeq (tAsg (tLNew K.P K.w) (gName 4))
    (tSeq (tFor (iSeq K (tCall (spN K f_staying 2) [] E0 (tCons (tVar 0) (tCons (tVar 1) tNil)))) (gTup K 2 (gNames [5, 6])) (tSeq (tAsg (tLSetd K.P K.w (tVar 4) (tVar 6) (tLst tNil)) (gName 7))
    (tSeq (tAsg (tC (.int 0)) (gName 8))
    (tSeq (tFor (iSeq K (tVar 7)) (gName 9) (tIfS (tAnd (tTest (tOp rLtU (tDGet (tVar 2) (tVar 9)) (tDGet (tVar 2) (tVar 5)))) (tTest (tOp rGtI (tDGet (tVar 3) (tVar 9)) (tVar 8)))) (tAsg (tDGet (tVar 3) (tVar 9)) (gName 8)) tNext))
    (tSeq (tDPut (tVar 3) (tVar 5) (tOp (rAddU K) (tVar 8) (tC (.int 1))))
    (tDrop (tBM K "list" rAppend (tVar 7) (tCons (tVar 5) tNil))))))))
    (tRet (tVar 3))))))
noncomputable def m_lengths : MS :=
  (mSeq (mAsg (mCall (noXf f_places) [false] (mCons (mVar 1) mNil)) (gN 2))
    (mSeq (mAsg mDnew (gN 3))
    (mSeq (mAsg mDnlN (gN 4))
    (mSeq (mFor .d (mSeqI (mD (mCall (noXf f_staying) [false, false] (mCons (mVar 0) (mCons (mVar 1) mNil))))) (gT [5, 6]) (mLend 4 7 (mVar 6) (mLst mNil)
    (mSeq (mAsg (mC (.int 0)) (gN 8))
    (mSeq (mFor .d (mSeqI (mVar 7)) (gN 9) (mIfS (mAnd (mTst (mOp (fl2 ltD) (mOp dgA (mVar 2) (mVar 9)) (mOp dgA (mVar 2) (mVar 5)))) (mTst (mOp (fl2 gtD) (mOp dgA (mVar 3) (mVar 9)) (mVar 8)))) (mAsg (mOp dgA (mVar 3) (mVar 9)) (gN 8)) mNext))
    (mSeq (mPut (mD (mOp addA (mVar 8) (mC (.int 1)))) (mVar 3) (mVar 5))
    (mDrop (mMeth appA (mVar 7) (mCons (mD (mVar 5)) mNil))))))))
    (mRet (mVar 3))))))
theorem ss_lengths {K : KW} {B : Bs} {W : WX} : SS K B W (t_lengths K) (m_lengths) :=
  (ss_seq (ss_asg (se_call0 rfl (sa_cons (se_var _) sa_nil)) (sg_name _))
    (ss_seq (ss_asg se_dnew (sg_name _))
    (ss_seq (ss_asg se_dnlN (sg_name _))
    (ss_seq (ss_for (si_seq (se_D (se_call0 rfl (sa_cons (se_var _) (sa_cons (se_var _) sa_nil))))) (sg_tup _ rfl) (ss_lend 4 7 (se_var _) (se_lst sa_nil) (fun B =>
    (ss_seq (ss_asg (se_int _) (sg_name _))
    (ss_seq (ss_for (si_seq (se_var _)) (sg_name _) (ss_if (st_and (st_Test (se_op (so2_fl os_lt) (se_dget (se_var _) (se_var _)) (se_dget (se_var _) (se_var _)))) (st_Test (se_op (so2_fl os_gt) (se_dget (se_var _) (se_var _)) (se_var _)))) (ss_asg (se_dget (se_var _) (se_var _)) (sg_name _)) ss_next))
    (ss_seq (ss_put (se_var _) (se_var _) (se_D (se_op so_add (se_var _) (se_int _))))
    (ss_drop (se_meth sm_app (se_var _) (sa_cons (se_D (se_var _)) sa_nil)))))))))
    (ss_ret (se_var _))))))
noncomputable def f_lengths : DF := runM 10 m_lengths

/-- slots of resting: 0 one, 1 other, 2 there, 3 found, 4 stay, 5 wanted, 6 name, 7 parent, 8 length, 9 rest, 10 behind -/
def n_resting : List Str := ["one", "other", "there", "found", "stay", "wanted", "name", "parent", "length", "rest", "behind"]
def t_resting (K : KW) : TS :=
  (tSeq (tAsg (tCall (spN K f_places 1) [] E0 (tCons (tVar 1) tNil)) (gName 2))
    (tSeq (tAsg (tCall (spN K f_lengths 2) [] E0 (tCons (tVar 0) (tCons (tVar 1) tNil))) (gName 3))
    (tSeq (tAsg (tCall (spN K f_staying 2) [] E0 (tCons (tVar 0) (tCons (tVar 1) tNil))) (gName 4))
    (tSeq (tAsg (tLNew K.P K.w) (gName 5))
    (tSeq (tFor (iSeq K (tVar 4)) (gTup K 2 (gNames [6, 7])) (tSeq (tAsg (tOp (rIx K) (tLGet2 K.P K.w (tVar 5) (tVar 7) (tTupF (tCons (tC (.int 0)) (tCons (tC (.int 0)) tNil)))) (tC (.int 0))) (gName 8))
    (sLPut K.P K.w (tVar 5) (tVar 7) (tTupF (tCons (tIf (tTest (tOp rGtI (tDGet (tVar 3) (tVar 6)) (tVar 8))) (tDGet (tVar 3) (tVar 6)) (tVar 8)) (tCons (tCB (rLenU K) (tCons (tVar 2) tNil)) tNil))))))
    (tSeq (tAsg (tLst tNil) (gName 9))
    (tSeq (tFor (iSeq K (tRevL K (tVar 4))) (gTup K 2 (gNames [6, 7])) (tSeq (tAsg (tLGet K.P K.w (tVar 5) (tVar 7)) (gTup K 2 (gNames [8, 10])))
    (tIfS (tAnd (tTest (tOp (rEqU K) (tDGet (tVar 3) (tVar 6)) (tVar 8))) (tTest (tOp rLtU (tDGet (tVar 2) (tVar 6)) (tVar 10)))) (tSeq (tDrop (tBM K "list" rAppend (tVar 9) (tCons (tVar 6) tNil)))
    (sLPut K.P K.w (tVar 5) (tVar 7) (tTupF (tCons (tOp rSubI (tVar 8) (tC (.int 1))) (tCons (tDGet (tVar 2) (tVar 6)) tNil))))) tNext)))
    (tRet (tVar 9)))))))))
noncomputable def m_resting : MS :=
  (mSeq (mAsg (mCall (noXf f_places) [false] (mCons (mVar 1) mNil)) (gN 2))
    (mSeq (mAsg (mCall (noXf f_lengths) [false, false] (mCons (mVar 0) (mCons (mVar 1) mNil))) (gN 3))
    (mSeq (mAsg (mCall (noXf f_staying) [false, false] (mCons (mVar 0) (mCons (mVar 1) mNil))) (gN 4))
    (mSeq (mAsg mDnN (gN 5))
    (mSeq (mFor .d (mSeqI (mVar 4)) (gT [6, 7]) (mSeq (mAsg (mOp ixA (mDnGet2 (mVar 5) (mVar 7) (mTup (mCons (mC (.int 0)) (mCons (mC (.int 0)) mNil)))) (mC (.int 0))) (gN 8))
    (mPutN (mTup (mCons (mD (mIfE (mTst (mOp (fl2 gtD) (mOp dgA (mVar 3) (mVar 6)) (mVar 8))) (mOp dgA (mVar 3) (mVar 6)) (mVar 8))) (mCons (mD (mCB (one lenA) (mCons (mVar 2) mNil))) mNil))) (mVar 5) (mVar 7))))
    (mSeq (mAsg (mLst mNil) (gN 9))
    (mSeq (mFor .d (mSeqI (mD (mU revLA (mVar 4)))) (gT [6, 7]) (mSeq (mAsg (mOp dnGetA (mVar 5) (mVar 7)) (gT [8, 10]))
    (mIfS (mAnd (mTst (mOp (fl2 eqD) (mOp dgA (mVar 3) (mVar 6)) (mVar 8))) (mTst (mOp (fl2 ltD) (mOp dgA (mVar 2) (mVar 6)) (mVar 10)))) (mSeq (mDrop (mMeth appA (mVar 9) (mCons (mD (mVar 6)) mNil)))
    (mPutN (mTup (mCons (mD (mOp (fl2 subD) (mVar 8) (mC (.int 1)))) (mCons (mD (mOp dgA (mVar 2) (mVar 6))) mNil))) (mVar 5) (mVar 7))) mNext)))
    (mRet (mVar 9)))))))))
theorem ss_resting {K : KW} {B : Bs} {W : WX} : SS K B W (t_resting K) (m_resting) :=
  (ss_seq (ss_asg (se_call0 rfl (sa_cons (se_var _) sa_nil)) (sg_name _))
    (ss_seq (ss_asg (se_call0 rfl (sa_cons (se_var _) (sa_cons (se_var _) sa_nil))) (sg_name _))
    (ss_seq (ss_asg (se_call0 rfl (sa_cons (se_var _) (sa_cons (se_var _) sa_nil))) (sg_name _))
    (ss_seq (ss_asg se_dnN (sg_name _))
    (ss_seq (ss_for (si_seq (se_var _)) (sg_tup _ rfl) (ss_seq (ss_asg (se_op so_ix (se_dnGet2 (se_var _) (se_var _) (se_tup (sa_cons (se_int _) (sa_cons (se_int _) sa_nil)))) (se_int _)) (sg_name _))
    (ss_putN (se_var _) (se_var _) (se_tup (sa_cons (se_D (se_if (st_Test (se_op (so2_fl os_gt) (se_dget (se_var _) (se_var _)) (se_var _))) (se_dget (se_var _) (se_var _)) (se_var _))) (sa_cons (se_D (se_cb (soa_one so1_len) (sa_cons (se_var _) sa_nil))) sa_nil))))))
    (ss_seq (ss_asg (se_lst sa_nil) (sg_name _))
    (ss_seq (ss_for (si_seq (se_D (se_revL (se_var _)))) (sg_tup _ rfl) (ss_seq (ss_asg (se_dnGet (se_var _) (se_var _)) (sg_tup _ rfl))
    (ss_if (st_and (st_Test (se_op (so2_fl os_eq) (se_dget (se_var _) (se_var _)) (se_var _))) (st_Test (se_op (so2_fl os_lt) (se_dget (se_var _) (se_var _)) (se_var _)))) (ss_seq (ss_drop (se_meth sm_app (se_var _) (sa_cons (se_D (se_var _)) sa_nil)))
    (ss_putN (se_var _) (se_var _) (se_tup (sa_cons (se_D (se_op (so2_fl os_sub) (se_var _) (se_int _))) (sa_cons (se_D (se_dget (se_var _) (se_var _))) sa_nil))))) ss_next)))
    (ss_ret (se_var _)))))))))
noncomputable def f_resting : DF := runM 11 m_resting

/-- slots of least_moves: 0 one, 1 other -/
def n_least_moves : List Str := ["one", "other"]
def t_least_moves (K : KW) : TS :=
  (tSeq (tDrop (tCall (spN K f_require_alike 2) [] E0 (tCons (tVar 0) (tCons (tVar 1) tNil))))
    (tRet (tOp rSubI (tCB (rLenU K) (tCons (tCall (spN K f_names_of 1) [] E0 (tCons (tVar 0) tNil)) tNil)) (tCB (rLenU K) (tCons (tCall (spN K f_resting 2) [] E0 (tCons (tVar 0) (tCons (tVar 1) tNil))) tNil)))))
noncomputable def m_least_moves : MS :=
  (mSeq (mDrop (mCall (noXf f_require_alike) [false, false] (mCons (mVar 0) (mCons (mVar 1) mNil))))
    (mRet (mOp (fl2 subD) (mCB (one lenA) (mCons (mCall (noXf f_names_of) [false] (mCons (mVar 0) mNil)) mNil)) (mCB (one lenA) (mCons (mCall (noXf f_resting) [false, false] (mCons (mVar 0) (mCons (mVar 1) mNil))) mNil)))))
theorem ss_least_moves {K : KW} {B : Bs} {W : WX} : SS K B W (t_least_moves K) (m_least_moves) :=
  (ss_seq (ss_drop (se_call0 rfl (sa_cons (se_var _) (sa_cons (se_var _) sa_nil))))
    (ss_ret (se_op (so2_fl os_sub) (se_cb (soa_one so1_len) (sa_cons (se_call0 rfl (sa_cons (se_var _) sa_nil)) sa_nil)) (se_cb (soa_one so1_len) (sa_cons (se_call0 rfl (sa_cons (se_var _) (sa_cons (se_var _) sa_nil))) sa_nil)))))
noncomputable def f_least_moves : DF := runM 2 m_least_moves

/-- slots of law: 0 _law_script, 1 _law_deck_here, 2 _law_many, 3 _law_names_here, 4 _law_over, 5 _law_cut, 6 _law_row, 7 _law_chain_here, 8 _law_tall, 9 _law_pairs, 10 _law_one, 11 _law_other, 12 _law_due, 13 _law_name_here -/
def n_law : List Str := ["_law_script", "_law_deck_here", "_law_many", "_law_names_here", "_law_over", "_law_cut", "_law_row", "_law_chain_here", "_law_tall", "_law_pairs", "_law_one", "_law_other", "_law_due", "_law_name_here"]
def t_law (K : KW) : TS :=
  (tSeq (tAsg (tCall (spN K f_deckL 1) [] E0 (tCons (tVar 0) tNil)) (gName 1))
    (tSeq (tAsg (tOp (rAddU K) (tC (.int 1)) (tCall (spN K f_drawL 2) [] E0 (tCons (tVar 1) (tCons (tC (.int 60)) tNil)))) (gName 2))
    (tSeq (tAsg (tCall (spN K f_namesL 2) [] E0 (tCons (tVar 1) (tCons (tOp (rAddU K) (tVar 2) (tC (.int 1))) tNil))) (gName 3))
    (tSeq (tPar 4 3 (tCons (tOp (rIx K) (tVar 3) (tC (.int 0))) (tCons (tSl (rSlU K) (tVar 3) (tPart (tC (.int 1))) tNoPart) tNil)))
    (tSeq (tAsg (tCall (spN K f_drawL 2) [] E0 (tCons (tVar 1) (tCons (tOp (rAddU K) (tVar 2) (tC (.int 1))) tNil))) (gName 5))
    (tSeq (tAsg (tCB (rTupOfF K) (tCons (tLc (iSeq K (tVar 3)) (gName 13) tYes (tTupF (tCons (tVar 13) (tCons (tTupF tNil) tNil))) [13]) tNil)) (gName 6))
    (tSeq (tAsg (tCall (spN K f_chainL 1) [] E0 (tCons (tSl (rSlU K) (tVar 3) tNoPart (tPart (tC (.int 38)))) tNil)) (gName 7))
    (tSeq (tAsg (tCB (rLenU K) (tCons (tSl (rSlU K) (tVar 3) tNoPart (tPart (tC (.int 38)))) tNil)) (gName 8))
    (tSeq (tAsg (tLst (tCons (tTupF (tCons (tVar 6) (tCons (tRevF K (tVar 6)) (tCons (tOp rSubI (tVar 2) (tC (.int 1))) tNil)))) (tCons (tTupF (tCons (tVar 6) (tCons (tOp (rAddU K) (tSl (rSlU K) (tVar 6) (tPart (tVar 5)) tNoPart) (tSl (rSlU K) (tVar 6) tNoPart (tPart (tVar 5)))) (tCons (tCB rMin2 (tCons (tVar 5) (tCons (tOp rSubI (tVar 2) (tVar 5)) tNil))) tNil)))) tNil))) (gName 9))
    (tSeq (tDrop (tBM K "list" rAppend (tVar 9) (tCons (tTupF (tCons (tVar 7) (tCons (tCall (spN K f_chainL 1) [] E0 (tCons (tRevL K (tSl (rSlU K) (tVar 3) tNoPart (tPart (tC (.int 38))))) tNil)) (tCons (tOp rMulU (tVar 8) (tCB rInt1 (tCons (tOp rGtI (tVar 8) (tC (.int 1))) tNil))) tNil)))) tNil)))
    (tSeq (tDrop (tBM K "list" rAppend (tVar 9) (tCons (tTupF (tCons (tVar 7) (tCons (tSl (rSlU K) (tVar 6) tNoPart (tPart (tVar 8))) (tCons (tOp rSubI (tVar 8) (tC (.int 1))) tNil)))) tNil)))
    (tSeq (tFor (iSeq K (tVar 9)) (gTup K 3 (gNames [10, 11, 12])) (tSeq (tIfS (tOr (tTest (tOp (rNeU K) (tCall (spN K f_least_moves 2) [] E0 (tCons (tVar 10) (tCons (tVar 11) tNil))) (tVar 12))) (tTest (tOp (rNeU K) (tCall (spN K f_least_moves 2) [] E0 (tCons (tVar 11) (tCons (tVar 10) tNil))) (tVar 12)))) (tRet (tC (.bl false))) tNext)
    (tIfS (tTest (tOp (rNeU K) (tCall (spN K f_least_moves 2) [] E0 (tCons (tTupF (tCons (tTupF (tCons (tVar 4) (tCons (tVar 10) tNil))) tNil)) (tCons (tTupF (tCons (tTupF (tCons (tVar 4) (tCons (tVar 11) tNil))) tNil)) tNil))) (tVar 12))) (tRet (tC (.bl false))) tNext)))
    (tRet (tC (.bl true)))))))))))))))
noncomputable def m_law : MS :=
  (mSeq (mAsg (mCall (noXf f_deckL) [false] (mCons (mVar 0) mNil)) (gN 1))
    (mSeq (mAsg (mOp addA (mC (.int 1)) (mCall (noXf f_drawL) [true, false] (mCons (mVar 1) (mCons (mC (.int 60)) mNil)))) (gN 2))
    (mSeq (mAsg (mCall (noXf f_namesL) [true, false] (mCons (mVar 1) (mCons (mD (mOp addA (mVar 2) (mC (.int 1)))) mNil))) (gN 3))
    (mSeq (mPar 4 3 (mCons (mOp ixA (mVar 3) (mC (.int 0))) (mCons (mSl (mVar 3) (mPart (mC (.int 1))) mNoPart) mNil)))
    (mSeq (mAsg (mCall (noXf f_drawL) [true, false] (mCons (mVar 1) (mCons (mD (mOp addA (mVar 2) (mC (.int 1)))) mNil))) (gN 5))
    (mSeq (mAsg (mCB (one tupA) (mCons (mLc .d (mSeqI (mVar 3)) (gN 13) mYes (mTup (mCons (mD (mVar 13)) (mCons (mTup mNil) mNil))) [13]) mNil)) (gN 6))
    (mSeq (mAsg (mCall (noXf f_chainL) [false] (mCons (mD (mSl (mVar 3) mNoPart (mPart (mC (.int 38))))) mNil)) (gN 7))
    (mSeq (mAsg (mCB (one lenA) (mCons (mSl (mVar 3) mNoPart (mPart (mC (.int 38)))) mNil)) (gN 8))
    (mSeq (mAsg (mLst (mCons (mTup (mCons (mD (mVar 6)) (mCons (mD (mU revA (mVar 6))) (mCons (mD (mOp (fl2 subD) (mVar 2) (mC (.int 1)))) mNil)))) (mCons (mTup (mCons (mD (mVar 6)) (mCons (mD (mOp addA (mSl (mVar 6) (mPart (mVar 5)) mNoPart) (mSl (mVar 6) mNoPart (mPart (mVar 5))))) (mCons (mD (mCB min2A (mCons (mVar 5) (mCons (mOp (fl2 subD) (mVar 2) (mVar 5)) mNil)))) mNil)))) mNil))) (gN 9))
    (mSeq (mDrop (mMeth appA (mVar 9) (mCons (mTup (mCons (mD (mVar 7)) (mCons (mD (mCall (noXf f_chainL) [false] (mCons (mD (mU revLA (mSl (mVar 3) mNoPart (mPart (mC (.int 38)))))) mNil))) (mCons (mD (mOp mulA (mVar 8) (mCB (one (fl1 intD)) (mCons (mOp (fl2 gtD) (mVar 8) (mC (.int 1))) mNil)))) mNil)))) mNil)))
    (mSeq (mDrop (mMeth appA (mVar 9) (mCons (mTup (mCons (mD (mVar 7)) (mCons (mD (mSl (mVar 6) mNoPart (mPart (mVar 8)))) (mCons (mD (mOp (fl2 subD) (mVar 8) (mC (.int 1)))) mNil)))) mNil)))
    (mSeq (mFor .d (mSeqI (mVar 9)) (gT [10, 11, 12]) (mSeq (mIfS (mOr (mTst (mOp (fl2 neD) (mCall (noXf f_least_moves) [false, false] (mCons (mVar 10) (mCons (mVar 11) mNil))) (mVar 12))) (mTst (mOp (fl2 neD) (mCall (noXf f_least_moves) [false, false] (mCons (mVar 11) (mCons (mVar 10) mNil))) (mVar 12)))) (mRet (mC (.bool false))) mNext)
    (mIfS (mTst (mOp (fl2 neD) (mCall (noXf f_least_moves) [false, false] (mCons (mTup (mCons (mTup (mCons (mD (mVar 4)) (mCons (mD (mVar 10)) mNil))) mNil)) (mCons (mTup (mCons (mTup (mCons (mD (mVar 4)) (mCons (mD (mVar 11)) mNil))) mNil)) mNil))) (mVar 12))) (mRet (mC (.bool false))) mNext)))
    (mRet (mC (.bool true)))))))))))))))
theorem ss_law {K : KW} {B : Bs} {W : WX} : SS K B W (t_law K) (m_law) :=
  (ss_seq (ss_asg (se_call0 rfl (sa_cons (se_var _) sa_nil)) (sg_name _))
    (ss_seq (ss_asg (se_op so_add (se_int _) (se_call0 rfl (sa_cons (se_var _) (sa_cons (se_int _) sa_nil)))) (sg_name _))
    (ss_seq (ss_asg (se_call0 rfl (sa_cons (se_var _) (sa_cons (se_D (se_op so_add (se_var _) (se_int _))) sa_nil))) (sg_name _))
    (ss_seq (ss_par (sa_cons (se_op so_ix (se_var _) (se_int _)) (sa_cons (se_sl (se_var _) (so_part (se_int _)) so_none) sa_nil)) (by decide))
    (ss_seq (ss_asg (se_call0 rfl (sa_cons (se_var _) (sa_cons (se_D (se_op so_add (se_var _) (se_int _))) sa_nil))) (sg_name _))
    (ss_seq (ss_asg (se_cb (soa_one so1_tup) (sa_cons (se_lc (si_seq (se_var _)) (sgw_name _ (by decide)) st_yes (se_tup (sa_cons (se_D (se_var _)) (sa_cons (se_tup sa_nil) sa_nil)))) sa_nil)) (sg_name _))
    (ss_seq (ss_asg (se_call0 rfl (sa_cons (se_D (se_sl (se_var _) so_none (so_part (se_int _)))) sa_nil)) (sg_name _))
    (ss_seq (ss_asg (se_cb (soa_one so1_len) (sa_cons (se_sl (se_var _) so_none (so_part (se_int _))) sa_nil)) (sg_name _))
    (ss_seq (ss_asg (se_lst (sa_cons (se_tup (sa_cons (se_D (se_var _)) (sa_cons (se_D (se_revT (se_var _))) (sa_cons (se_D (se_op (so2_fl os_sub) (se_var _) (se_int _))) sa_nil)))) (sa_cons (se_tup (sa_cons (se_D (se_var _)) (sa_cons (se_D (se_op so_add (se_sl (se_var _) (so_part (se_var _)) so_none) (se_sl (se_var _) so_none (so_part (se_var _))))) (sa_cons (se_D (se_cb soa_min (sa_cons (se_var _) (sa_cons (se_op (so2_fl os_sub) (se_var _) (se_var _)) sa_nil)))) sa_nil)))) sa_nil))) (sg_name _))
    (ss_seq (ss_drop (se_meth sm_app (se_var _) (sa_cons (se_tup (sa_cons (se_D (se_var _)) (sa_cons (se_D (se_call0 rfl (sa_cons (se_D (se_revL (se_sl (se_var _) so_none (so_part (se_int _))))) sa_nil))) (sa_cons (se_D (se_op so_mul (se_var _) (se_cb (soa_one (so1_fl us_int)) (sa_cons (se_op (so2_fl os_gt) (se_var _) (se_int _)) sa_nil)))) sa_nil)))) sa_nil)))
    (ss_seq (ss_drop (se_meth sm_app (se_var _) (sa_cons (se_tup (sa_cons (se_D (se_var _)) (sa_cons (se_D (se_sl (se_var _) so_none (so_part (se_var _)))) (sa_cons (se_D (se_op (so2_fl os_sub) (se_var _) (se_int _))) sa_nil)))) sa_nil)))
    (ss_seq (ss_for (si_seq (se_var _)) (sg_tup _ rfl) (ss_seq (ss_if (st_or (st_Test (se_op (so2_fl os_ne) (se_call0 rfl (sa_cons (se_var _) (sa_cons (se_var _) sa_nil))) (se_var _))) (st_Test (se_op (so2_fl os_ne) (se_call0 rfl (sa_cons (se_var _) (sa_cons (se_var _) sa_nil))) (se_var _)))) (ss_ret (se_bl _)) ss_next)
    (ss_if (st_Test (se_op (so2_fl os_ne) (se_call0 rfl (sa_cons (se_tup (sa_cons (se_tup (sa_cons (se_D (se_var _)) (sa_cons (se_D (se_var _)) sa_nil))) sa_nil)) (sa_cons (se_tup (sa_cons (se_tup (sa_cons (se_D (se_var _)) (sa_cons (se_D (se_var _)) sa_nil))) sa_nil)) sa_nil))) (se_var _))) (ss_ret (se_bl _)) ss_next)))
    (ss_ret (se_bl _))))))))))))))
noncomputable def f_law : DF := runM 14 m_law

end Tw
namespace Tw
open PySem PySem.Spec PyProof.Rows L2
/-- the deck -/
abbrev Dkv (g m c : Int) : Ow := .l [.int g, .int m, .int c]
theorem atI0 {α : Type} {a b c : α} : atI [a, b, c] 0 = some a := rfl
theorem atI1 {α : Type} {a b c : α} : atI [a, b, c] 1 = some b := rfl
theorem atI2 {α : Type} {a b c : α} : atI [a, b, c] 2 = some c := rfl
theorem ixN0 : ixN 3 0 = some 0 := rfl
theorem ixN2 : ixN 3 2 = some 2 := rfl
theorem cm_l {i j : Int} (h : -(2 ^ 64) < i ∧ i < 2 ^ 64) : CMul i j := .inl h
theorem cm_r {i j : Int} (h : -(2 ^ 64) < j ∧ j < 2 ^ 64) : CMul i j := .inr h
theorem mod_lt64 (x : Int) : -(2 ^ 64) < x % 18446744073709551557 ∧ x % 18446744073709551557 < 2 ^ 64 := by
  have h1 := Int.emod_nonneg x (by decide : (18446744073709551557 : Int) ≠ 0)
  have h2 := Int.emod_lt_of_pos x (by decide : (0 : Int) < 18446744073709551557)
  constructor <;> omega
theorem mod_lt61 (x : Int) : -(2 ^ 64) < x % 2305843009213693951 ∧ x % 2305843009213693951 < 2 ^ 64 := by
  have h1 := Int.emod_nonneg x (by decide : (2305843009213693951 : Int) ≠ 0)
  have h2 := Int.emod_lt_of_pos x (by decide : (0 : Int) < 2305843009213693951)
  constructor <;> omega
theorem draw_ok (g m c n : Int) (h0 : 0 < n) (h1 : n < 1073741824) : ∃ r g' c' : Int, f_drawL [.io (Dkv g m c), .d (.int n)] = .ok (.d (.int r)) [.io (Dkv g' m c'), .d (.int n)] ∧ 0 ≤ r ∧ r < n := by
  have e1 : ∀ j, CMul (11400714819323198485 : Int) j := fun j => cm_l (by decide)
  have e2 : ∀ x j, CMul (x % 18446744073709551557 : Int) j := fun x j => cm_l (mod_lt64 x)
  have e3 : ∀ x j, CMul (x % 2305843009213693951 : Int) j := fun x j => cm_l (mod_lt61 x)
  suffices h : DOk (fun r ios => ∃ z g' c' : Int, r = .d (.int (z % n)) ∧ ios = [.io (Dkv g' m c'), .d (.int n)]) (f_drawL [.io (Dkv g m c), .d (.int n)]) by
    obtain ⟨a, ios, e, z, g', c', rfl, rfl⟩ := h.ex
    exact ⟨_, _, _, e, Int.emod_nonneg _ (by omega), Int.emod_lt_of_pos _ h0⟩
  refine run_ok ?_
  by_cases hg : 0 < g
  · simp! [m_drawL, EndR, atI0, atI1, atI2, ixN0, ixN2, h0, h1, hg]
    exact ⟨_, rfl⟩
  · simp! [m_drawL, EndR, atI0, atI1, atI2, ixN0, ixN2, h0, h1, hg, e1, e2, e3]
    exact ⟨_, rfl⟩
theorem noX_ok (a : A) (l : List A) : DRs.noX (.ok a l) = .ok a l := rfl
theorem deck_ok (ns : List Int) : ∃ g m : Int, f_deckL [.sc ns] = .ok (.own (Dkv g m 0)) [.sc ns] := by
  suffices h : DOk (fun r ios => ∃ g m : Int, r = .own (Dkv g m 0) ∧ ios = [.sc ns]) (f_deckL [.sc ns]) by
    obtain ⟨a, ios, e, g, m, rfl, rfl⟩ := h.ex
    exact ⟨g, m, e⟩
  refine run_ok ?_
  have e1 : ∀ j, CMul (41 : Int) j := fun j => cm_l (by decide)
  have e2 : ∀ j, CMul (2 : Int) j := fun j => cm_l (by decide)
  have e3 : ∀ j, CMul j (6364136223846793005 : Int) := fun j => cm_r (by decide)
  have e4 : ∀ j, CMul j (37 : Int) := fun j => cm_r (by decide)
  have s3 : 3 ≤ sizeLine := big (by decide)
  simp! [m_deckL, e1]
  refine fp_for (fun r e => (∀ x ∈ r, ∃ i : Int, x = .int i) ∧ ∃ (g m : Int) (y3 y4 : Option A), e = [some (.sc ns), some (.d (.int g)), some (.d (.int m)), y3, y4] ∧ (y3 = none ∨ ∃ x, y3 = some (.d x)) ∧ (y4 = none ∨ ∃ x, y4 = some (.d x))) (as := [.d (.list (cutD (ns.map PyData.int) none (some 60)))]) (rd := fun _ => some (cutD (ns.map PyData.int) none (some 60))) (xs := cutD (ns.map PyData.int) none (some 60)) (e := [some (.sc ns), some (.d (.int 0)), some (.d (.int (2917 + 41 * ns.length))), none, none]) (by simp!) ⟨?_, _, _, none, none, rfl, .inl rfl, .inl rfl⟩ (fun _ _ _ => rfl) ?_ ?_
  · intro x hx
    have := List.mem_of_mem_drop (List.mem_of_mem_take hx)
    obtain ⟨i, _, rfl⟩ := List.mem_map.mp this
    exact ⟨i, rfl⟩
  · rintro x r e ⟨hr, g, m, y3, y4, rfl, h3, h4⟩
    obtain ⟨i, rfl⟩ := hr _ List.mem_cons_self
    refine ⟨[some (.sc ns), some (.d (.int g)), some (.d (.int m)), some (.d (.int i)), y4], ?_, ?_⟩
    · rcases h3 with rfl | ⟨_, rfl⟩ <;> rcases h4 with rfl | ⟨_, rfl⟩ <;> simp!
    · have hr' : ∀ x ∈ r, ∃ i : Int, x = .int i := fun x hx => hr x (List.mem_cons_of_mem _ hx)
      by_cases c : 1000000000000000000 ≤ (if i < 0 then -i else i)
      · rcases h4 with rfl | ⟨_, rfl⟩
        · simp! [e2, e3, e4, c]
          exact ⟨hr', _, _, _, _, ⟨rfl, rfl, rfl, rfl⟩, .inr ⟨_, rfl⟩, .inr ⟨_, rfl⟩⟩
        · simp! [e2, e3, e4, c]
          exact ⟨hr', _, _, _, _, ⟨rfl, rfl, rfl, rfl⟩, .inr ⟨_, rfl⟩, .inr ⟨_, rfl⟩⟩
      · rcases h4 with rfl | ⟨_, rfl⟩
        · simp! [e2, e3, e4, c]
          exact ⟨hr', _, _, _, _, ⟨rfl, rfl, rfl, rfl⟩, .inr ⟨_, rfl⟩, .inr ⟨_, rfl⟩⟩
        · simp! [e2, e3, e4, c]
          exact ⟨hr', _, _, _, _, ⟨rfl, rfl, rfl, rfl⟩, .inr ⟨_, rfl⟩, .inr ⟨_, rfl⟩⟩
  · rintro e ⟨_, g, m, y3, y4, rfl, h3, h4⟩
    simp! [s3]
    refine ⟨_, rfl, ?_⟩
    simp!
end Tw

namespace Tw
open PySem PySem.Spec PyProof.Rows L2
theorem begin_ok (s : Str) (h : s.length ≤ 1000) : f_begin_of [.d (.str s)] = .ok (.d (.str (tkS (true, s)))) [.d (.str s)] := by
  have h1 : ("+" : Str).length = 1 := by decide +kernel
  have h2 : ("+" : Str).length + s.length ≤ sizeLine := big (by omega)
  simp! [f_begin_of, m_begin_of, runM, endM, h2, tkS]
theorem end_ok (s : Str) (h : s.length ≤ 1000) : f_end_of [.d (.str s)] = .ok (.d (.str (tkS (false, s)))) [.d (.str s)] := by
  have h1 : ("-" : Str).length = 1 := by decide +kernel
  have h2 : ("-" : Str).length + s.length ≤ sizeLine := big (by omega)
  simp! [f_end_of, m_end_of, runM, endM, h2, tkS]
theorem sum_ones (cs : List Nat) : ((cs.map fun c => (⟨#[c]⟩ : Str)).map (·.length)).sum = cs.length := by
  induction cs with
  | nil => rfl
  | cons c r ih =>
    rw [List.map_cons, List.map_cons, List.sum_cons, ih, List.length_cons]
    show 1 + r.length = r.length + 1
    omega
theorem strsD_map : ∀ ss : List Str, strsD (ss.map .str) = some ss
  | [] => rfl
  | s :: r => by
    show (strsD (r.map .str)).map (s :: ·) = _
    rw [strsD_map r]
    rfl
theorem intsD_len (lo : Int) (n : Nat) : (intsD lo n).length = n := by simp [intsD]
theorem name_ok (g m c : Int) : ∃ (z : Str) (g' c' : Int), IsNm z ∧ f_nameL [.io (Dkv g m c)] = .ok (.d (.str z)) [.io (Dkv g' m c')] := by
  suffices h : DOk (fun r ios => ∃ (z : Str) (g' c' : Int), IsNm z ∧ r = .d (.str z) ∧ ios = [.io (Dkv g' m c')]) (f_nameL [.io (Dkv g m c)]) by
    obtain ⟨a, ios, e, z, g', c', h, rfl, rfl⟩ := h.ex
    exact ⟨_, _, _, h, e⟩
  refine run_ok ?_
  simp! [m_nameL]
  obtain ⟨r, g1, c1, e1, r0, r1⟩ := draw_ok g m c 8 (by decide) (by decide)
  generalize hl : mLc _ _ _ _ _ _ _ _ = r0
  obtain ⟨ys, e', rfl, cs, g2, c2, hle, hc, hy, rfl⟩ := lc_okr hl (fun rr acc e => ∃ (cs : List Nat) (g' c' : Int), cs.length + rr.length = (1 + r).toNat ∧ (∀ c ∈ cs, IsLt c) ∧ acc = cs.map (fun c => PyData.str ⟨#[c]⟩) ∧ e = [some (.io (Dkv g' m c')), some (.d (.str letters)), none])
    (as := []) (rd := fun _ => some (intsD 0 (1 + r).toNat)) (xs := intsD 0 (1 + r).toNat) (e := [some (.io (Dkv g1 m c1)), some (.d (.str letters)), none]) (by
      have h1 : (-4611686018427387904 : Int) ≤ 1 + r := by omega
      have h2 : 1 + r < (4611686018427387904 : Int) := by omega
      simp! [e1, h1, h2]) (by simp!) ⟨[], g1, c1, by simp [intsD_len], by simp, rfl, rfl⟩ (fun _ _ _ _ => rfl) (by
      rintro x rr acc e ⟨cs, g', c', hle, hc, rfl, rfl⟩
      obtain ⟨r2, g2, c2, e2, s0, s1⟩ := draw_ok g' m c' 26 (by decide) (by decide)
      have hat := letters_at s0 s1
      have hs : cs.length < sizeLine := big' (by omega)
      refine ⟨_, by simp!; rfl, true, _, rfl, fun _ => ⟨_, _, by simp! [e2, hat]; exact ⟨rfl, rfl⟩, by simpa using hs, by simp!, cs ++ [97 + r2.toNat], g2, c2, ?_, ?_, ?_, ?_⟩, fun z => nomatch z⟩
      · simp at hle ⊢
        omega
      · intro c hc'
        rcases List.mem_append.mp hc' with h | h
        · exact hc c h
        · rcases List.mem_cons.mp h with rfl | h
          · unfold IsLt
            omega
          · cases h
      · simp
      · simp!)
  have hz := tl_singles cs
  have hs := strsD_map (cs.map fun c => (⟨#[c]⟩ : Str))
  have e0 : ("" : Str).length = 0 := by decide +kernel
  have hn : cs.length = (1 + r).toNat := by simpa using hle
  have hL : (Txt.join "" (cs.map fun c => (⟨#[c]⟩ : Str))).length ≤ sizeLine := len_tl_le (n := 8) (by rw [hz]; omega) (by decide)
  have hk : ((cs.map fun c => (⟨#[c]⟩ : Str)).map (·.length)).sum + (cs.map fun c => (⟨#[c]⟩ : Str)).length * ("" : Str).length ≤ 16777216 := by
    rw [sum_ones, e0, hn]
    omega
  have hy' : ys = (cs.map fun c => (⟨#[c]⟩ : Str)).map .str := by rw [hy, List.map_map]; rfl
  rw [hy']
  generalize hcs : (cs.map fun c => (⟨#[c]⟩ : Str)) = ss at *
  simp! only [Option.map_some, Option.bind_some, hs]
  rw [if_pos ⟨hk, hL⟩]
  simp! [EndR]
  refine ⟨?_, ?_, ?_⟩
  · rw [hz]
    omega
  · rw [hz]
    omega
  · rw [hz]
    exact hc
end Tw

namespace Tw
open PySem PySem.Spec PyProof.Rows L2
theorem fp_conseq {N : Env → Prop} {R : A → Env → Prop} {f : Fl} (J : Env → Prop) (h : FP J R f) (k : ∀ e, J e → N e) : FP N R f := by
  cases h with
  | nx h => exact .nx (k _ h)
  | rt h => exact .rt h
theorem rng1_int {m : ME} {env e : Env} {te : List A} {j : Int} (hj : -(2 ^ 62) ≤ j ∧ j < 2 ^ 62) (h : m env te = .ok (.d (.int j)) e) : mRng1 m env te = .ok ([], fun _ => some (intsD 0 j.toNat)) e := by
  rw [ev_mRng1, h]
  exact if_pos hj
theorem rng1_nat {m : ME} {env e : Env} {te : List A} {n : Nat} (hn : n ≤ 100000) (h : m env te = .ok (.d (.int n)) e) : mRng1 m env te = .ok ([], fun _ => some (intsD 0 n)) e := by
  rw [rng1_int (j := (n : Int)) ⟨by omega, by omega⟩ h, Int.toNat_natCast]
theorem eqv_str (a b : Str) : PyData.eqv (.str a) (.str b) = decide (a = b) := by
  rw [Bool.eq_iff_iff]
  simp [PyData.eqv]
theorem eqv_int (a b : Int) : PyData.eqv (.int a) (.int b) = decide (a = b) := by
  rw [Bool.eq_iff_iff]
  simp [PyData.eqv]
theorem eqD_int (a b : Int) : eqD (.int a) (.int b) = some (.bool (decide (a = b))) := by
  unfold eqD
  rw [if_pos (by simp [okEq, PyData.plain, PyData.depth]), eqv_int]
theorem eqD_str (a b : Str) : eqD (.str a) (.str b) = some (.bool (decide (a = b))) := by
  unfold eqD
  rw [if_pos (by simp [okEq, PyData.plain, PyData.depth]), eqv_str]
theorem neD_int (a b : Int) : neD (.int a) (.int b) = some (.bool (!decide (a = b))) := by
  unfold neD
  rw [if_pos (by simp [okEq, PyData.plain, PyData.depth]), eqv_int]
theorem any_str (z : Str) (ns : List Str) : (ns.any fun s => PyData.eqv (.str s) (.str z)) = decide (z ∈ ns) := by
  rw [Bool.eq_iff_iff]
  simp [eqv_str]
theorem inD_list (neg : Bool) (z : Str) (ns : List Str) : inD neg (.str z) (.list (ns.map .str)) = some (.bool (if neg then !decide (z ∈ ns) else decide (z ∈ ns))) := by
  unfold inD
  simp only [seqD, strsD_map, any_str]
  have e : ((ns.map PyData.str).any fun y => PyData.eqv y (.str z)) = decide (z ∈ ns) := by
    rw [List.any_map]
    exact any_str z ns
  rw [e]
  split <;> rfl
theorem len_rep8 (l : List Nat) : ((List.replicate 8 l).flatten).length = 8 * l.length := by
  rw [List.length_flatten, List.map_replicate]
  simp [List.replicate]
  omega
theorem two_signs (a b : Nat) : (⟨#[a]⟩ : Str) ++ ⟨#[b]⟩ = ⟨#[a, b]⟩ := TL.ext_tl (by
  rw [TL.tl_append]
  rfl)
theorem nm_sign {a b : List Nat} {c : Nat} {z : Str} (hz : TL.tl z = a ++ [c] ++ b) (hc : IsLt c) (ha : ∀ x ∈ a, IsLt x) (hb : ∀ x ∈ b, IsLt x) (hl : a.length + b.length ≤ 7) : IsNm z := by
  refine ⟨?_, ?_, ?_⟩
  · rw [hz]
    simp
    omega
  · rw [hz]
    simp
    omega
  · rw [hz]
    intro x hx
    rcases List.mem_append.mp hx with h | h
    · rcases List.mem_append.mp h with h | h
      · exact ha x h
      · rcases List.mem_cons.mp h with rfl | h
        · exact hc
        · cases h
    · exact hb x h
def nE (sp : List Dt) (m g c : Int) (n : Nat) (way : Int) (bs : Str) (pl at_ : Nat) (ns : List Str) (y9 y10 y11 : Option A) : Env := [some (.io (Dkv g m c)), some (.d (.int n)), some (.d (.str letters)), some (.own (.l sp)), some (.d (.int way)), some (.d (.str bs)), some (.d (.int pl)), some (.d (.int at_)), some (.own (.l (ns.map .str))), y9, y10, y11]
def ND (y : Option A) : Prop := y = none ∨ ∃ x, y = some (.d x)
theorem spare_at {k : Nat} (h : k < 676) : atI (spares.map PyData.str) k = some (.str (spare k)) := by
  refine atI_nat ?_
  rw [List.getElem?_map, spares_get h]
  rfl
def slotNat (e : Env) (i : Nat) : Nat := match e[i]? with
  | some (some (A.d (.int k))) => k.toNat
  | _ => 0
theorem nm_len {z : Str} (h : IsNm z) : z.length ≤ 8 := by
  rw [TL.len_tl]
  exact h.2.1
theorem names_ok (g m c : Int) (n : Nat) (hn : n ≤ 600) : ∃ (ns : List Str) (g' c' : Int), ns.length = n ∧ ns.Nodup ∧ (∀ z ∈ ns, IsNm z) ∧ f_namesL [.io (Dkv g m c), .d (.int n)] = .ok (.own (.l (ns.map .str))) [.io (Dkv g' m c'), .d (.int n)] := by
  suffices h : DOk (fun r ios => ∃ (ns : List Str) (g' c' : Int), ns.length = n ∧ ns.Nodup ∧ (∀ z ∈ ns, IsNm z) ∧ r = .own (.l (ns.map .str)) ∧ ios = [.io (Dkv g' m c'), .d (.int n)]) (f_namesL [.io (Dkv g m c), .d (.int n)]) by
    obtain ⟨a, ios, e, ns, g', c', h1, h2, h3, rfl, rfl⟩ := h.ex
    exact ⟨_, _, _, h1, h2, h3, e⟩
  refine run_ok ?_
  simp! [m_namesL]
  -- the spare names
  generalize hl : mLc _ _ _ _ _ _ _ _ = r0
  obtain ⟨ys, e', rfl, hi⟩ := lc_okr hl (fun rr acc e => rr = (intsD 0 676).drop acc.length ∧ acc.length ≤ 676 ∧ acc = (spares.take acc.length).map .str ∧ e = [some (.io (Dkv g m c)), some (.d (.int n)), some (.d (.str letters)), none, none, none, none, none, none, none, none, none])
    (as := []) (rd := fun _ => some (intsD 0 676)) (xs := intsD 0 676) (e := [some (.io (Dkv g m c)), some (.d (.int n)), some (.d (.str letters)), none, none, none, none, none, none, none, none, none]) (by
      simp!) (by simp!) ⟨rfl, by simp, rfl, by simp!⟩ (fun _ _ _ _ => rfl) (by
      rintro x rr acc e ⟨h1, h2, h3, rfl⟩
      have hlt : acc.length < 676 := by
        rcases Nat.lt_or_ge acc.length 676 with h | h
        · exact h
        · rw [List.drop_of_length_le (by rw [intsD_len]; exact h)] at h1
          cases h1
      have hx : (intsD 0 676)[acc.length]? = some (.int acc.length) := by
        unfold intsD
        rw [List.getElem?_map, List.getElem?_range hlt]
        simp
      have hd : (intsD 0 676).drop acc.length = .int acc.length :: (intsD 0 676).drop (acc.length + 1) := by
        rw [List.getElem?_eq_some_iff] at hx
        obtain ⟨h, e⟩ := hx
        rw [List.drop_eq_getElem_cons h, e]
      rw [hd] at h1
      injection h1 with h1 h4
      subst h1
      have a1 := letters_at (i := (acc.length : Int) / 26) (by omega) (by omega)
      have a2 := letters_at (i := (acc.length : Int) % 26) (by omega) (by omega)
      have hsz : acc.length < sizeLine := big' (by omega)
      have h2s : (1 : Nat) + 1 ≤ sizeLine := big (by decide)
      have e2 : (⟨#[97 + ((acc.length : Int) / 26).toNat]⟩ : Str) ++ ⟨#[97 + ((acc.length : Int) % 26).toNat]⟩ = spare acc.length := by
        rw [two_signs]
        unfold spare
        have e3 : ((acc.length : Int) / 26).toNat = acc.length / 26 := by omega
        have e4 : ((acc.length : Int) % 26).toNat = acc.length % 26 := by omega
        rw [e3, e4]
      have l1 : ∀ k : Nat, (⟨#[k]⟩ : Str).length = 1 := fun _ => rfl
      refine ⟨_, by simp!; rfl, true, _, rfl, fun _ => ⟨.str (spare acc.length), _, by simp! [a1, a2, l1, h2s, e2]; rfl, hsz, by simp!, ?_, ?_, ?_, ?_⟩, fun z => nomatch z⟩
      · simpa using h4
      · simp
        omega
      · rw [List.length_append]
        show acc ++ [_] = (spares.take (acc.length + 1)).map _
        rw [List.take_add_one, spares_get hlt, List.map_append, ← h3]
        rfl
      · simp!)
  obtain ⟨h1, h2, h3, rfl⟩ := hi
  have hyl : ys.length = 676 := by
    have := congrArg List.length h1
    rw [List.length_drop, intsD_len, List.length_nil] at this
    omega
  have eys : ys = spares.map .str := by
    rw [h3, hyl, List.take_of_length_le (by rw [spares_len]; omega)]
  clear hl h1 h2 h3 hyl
  obtain ⟨sp, hsp, rfl⟩ : ∃ sp, (∀ k : Nat, k < 676 → atI sp k = some (.str (spare k))) ∧ sp = ys := ⟨ys, fun k hk => by rw [eys]; exact spare_at hk, rfl⟩
  clear eys
  obtain ⟨way, g1, c1, q1, w0, w1⟩ := draw_ok g m c 4 (by decide) (by decide)
  obtain ⟨z0, g2, c2, hz0, q2⟩ := name_ok g1 m c1
  obtain ⟨pl', g3, c3, q3, p0, p1⟩ := draw_ok g2 m c2 8 (by decide) (by decide)
  obtain ⟨pl, rfl⟩ : ∃ k : Nat, pl' = k := ⟨pl'.toNat, by omega⟩
  have hz1 : 1 ≤ (TL.tl z0).length := hz0.1
  have hz8 : (TL.tl z0).length ≤ 8 := hz0.2.1
  have em : TL.tl (Txt.mul z0 8) = (List.replicate 8 (TL.tl z0)).flatten := tl_mul z0 8 (by decide) hz1
  have lm : (TL.tl (Txt.mul z0 8)).length = 8 * (TL.tl z0).length := by
    rw [em]
    exact len_rep8 _
  have mk : MulOk z0 8 := mulOk_small (n := 8) (by decide) (by omega)
  have ml : (Txt.mul z0 8).length ≤ sizeLine := len_tl_le (n := 64) (by omega) (by decide)
  have tb : TL.tl (cutS (Txt.mul z0 8) none (some 8)) = (TL.tl (Txt.mul z0 8)).take 8 := tl_cut_to _ 8
  have cl : (cutS (Txt.mul z0 8) none (some 8)).length ≤ sizeLine := len_tl_le (n := 8) (by rw [tb, List.length_take]; omega) (by decide)
  have s0 : (0 : Nat) ≤ sizeLine := Nat.zero_le _
  simp! [q1, q2, mk, ml, cl]
  generalize cutS (Txt.mul z0 8) none (some 8) = bs at tb ⊢
  clear cl
  refine fp_conseq (fun e => e = nE sp m g3 c3 n way bs pl 0 [] none none none) (by simp! [q3, nE]) ?_
  rintro _ rfl
  rw [sq_ap, fp_seq]
  have lb : (TL.tl bs).length = 8 := by
    rw [tb, List.length_take, lm]
    omega
  have cb : ∀ c ∈ TL.tl bs, IsLt c := fun c hc => by
    rw [tb] at hc
    have hc2 := List.mem_of_mem_take hc
    rw [em] at hc2
    obtain ⟨l, hl, hcl⟩ := List.mem_flatten.mp hc2
    rw [List.eq_of_mem_replicate hl] at hcl
    exact hz0.2.2 c hcl
  refine fp_for (fun r e => ∃ (g' c' : Int) (ns : List Str) (at_ : Nat) (y9 y10 y11 : Option A), e = nE sp m g' c' n way bs pl at_ ns y9 y10 y11 ∧ ND y9 ∧ ND y10 ∧ ND y11 ∧ ns.length + r.length = n ∧ ns.Nodup ∧ (∀ z ∈ ns, IsNm z) ∧ (∀ j, j < at_ → spare j ∈ ns) ∧ at_ ≤ 676)
    (as := []) (rd := fun _ => some (intsD 0 n)) (xs := intsD 0 n) (e := nE sp m g3 c3 n way bs pl 0 [] none none none) ?_ ?_ ?_ ?_ ?_
  · exact rng1_nat (by omega) (by simp! [nE])
  · exact ⟨g3, c3, [], 0, none, none, none, rfl, .inl rfl, .inl rfl, .inl rfl, by simp [intsD_len], List.nodup_nil, by simp, fun j h => absurd h (Nat.not_lt_zero _), by decide⟩
  · exact fun _ _ _ => rfl
  · rintro x r e ⟨g', c', ns, at_, y9, y10, y11, rfl, hy9, hy10, hy11, hlen, hnd, hnm, hu, hat⟩
    have hl2 : ns.length + (r.length + 1) = n := hlen
    obtain ⟨x', rfl⟩ : ∃ x' : A, x' = .d x := ⟨_, rfl⟩
    refine ⟨nE sp m g' c' n way bs pl at_ ns (some (.d x)) y10 y11, ?_, ?_⟩
    · rcases hy9 with rfl | ⟨_, rfl⟩ <;> rcases hy10 with rfl | ⟨_, rfl⟩ <;> rcases hy11 with rfl | ⟨_, rfl⟩ <;> simp! [nE]
    · rw [fp_seq]
      -- the kind
      refine fp_conseq (fun e => ∃ (g' c' kd : Int), e = nE sp m g' c' n way bs pl at_ ns (some (.d x)) (some (.d (.int kd))) y11) ?_ ?_
      · obtain ⟨r3, g4, c4, q4, _, _⟩ := draw_ok g' m c' 3 (by decide) (by decide)
        by_cases hw : way = 3
        · rcases hy10 with rfl | ⟨_, rfl⟩ <;> rcases hy11 with rfl | ⟨_, rfl⟩ <;> simp! [nE, eqD_int, hw, q4]
        · rcases hy10 with rfl | ⟨_, rfl⟩ <;> rcases hy11 with rfl | ⟨_, rfl⟩ <;> simp! [nE, eqD_int, hw]
      · rintro e ⟨g', c', kd, rfl⟩
        rw [sq_ap, fp_seq]
        -- the name
        refine fp_conseq (fun e => ∃ (g' c' : Int) (z : Str), IsNm z ∧ e = nE sp m g' c' n way bs pl at_ ns (some (.d x)) (some (.d (.int kd))) (some (.d (.str z)))) ?_ ?_
        · by_cases k0 : kd = 0
          · obtain ⟨z, g4, c4, hz, q4⟩ := name_ok g' m c'
            rcases hy11 with rfl | ⟨_, rfl⟩ <;> simp! [nE, eqD_int, k0, q4, hz]
          · by_cases k1 : kd = 1
            · subst k1
              obtain ⟨r2, g4, c4, q4, r0, r1⟩ := draw_ok g' m c' 26 (by decide) (by decide)
              have p1' : pl < 8 := by omega
              have t1 : TL.tl (cutS bs none (some (pl : Int))) = (TL.tl bs).take pl := tl_cut_to bs pl
              have t2 : TL.tl (cutS bs (some ((pl : Int) + 1)) none) = (TL.tl bs).drop (pl + 1) := tl_cut_from bs (pl + 1)
              have l1 : ((TL.tl bs).take pl).length = pl := by rw [List.length_take]; omega
              have l2 : ((TL.tl bs).drop (pl + 1)).length = 7 - pl := by rw [List.length_drop]; omega
              have hz : IsNm (cutS bs none (some (pl : Int)) ++ (⟨#[97 + r2.toNat]⟩ : Str) ++ cutS bs (some ((pl : Int) + 1)) none) := by
                refine nm_sign (a := (TL.tl bs).take pl) (b := (TL.tl bs).drop (pl + 1)) (c := 97 + r2.toNat) ?_ ?_ (fun x hx => cb x (List.mem_of_mem_take hx)) (fun x hx => cb x (List.mem_of_mem_drop hx)) (by omega)
                · rw [TL.tl_append, TL.tl_append, t1, t2]
                · unfold IsLt
                  omega
              have b1 : (cutS bs none (some (pl : Int))).length ≤ sizeLine := len_tl_le (n := 8) (by rw [t1]; omega) (by decide)
              have b2 : (cutS bs (some ((pl : Int) + 1)) none).length ≤ sizeLine := len_tl_le (n := 8) (by rw [t2]; omega) (by decide)
              have b3 : (cutS bs none (some (pl : Int))).length + (⟨#[97 + r2.toNat]⟩ : Str).length ≤ sizeLine := by
                rw [TL.len_tl, TL.len_tl, t1, l1]
                exact big (by show pl + 1 ≤ 100000; omega)
              have b4 : (cutS bs none (some (pl : Int)) ++ (⟨#[97 + r2.toNat]⟩ : Str)).length + (cutS bs (some ((pl : Int) + 1)) none).length ≤ sizeLine := by
                rw [TL.len_tl, TL.len_tl, TL.tl_append, t1, t2, List.length_append, l1, l2]
                exact big (by show pl + 1 + (7 - pl) ≤ 100000; omega)
              have hat := letters_at r0 r1
              rcases hy11 with rfl | ⟨_, rfl⟩ <;> simp! [nE, eqD_int, q4, hat, b1, b2, b3, b4, hz]
            · obtain ⟨r2, g4, c4, q4, r0, r1⟩ := draw_ok g' m c' 8 (by decide) (by decide)
              obtain ⟨rn, rfl⟩ : ∃ rn : Nat, r2 = rn := ⟨r2.toNat, by omega⟩
              have t1 : TL.tl (cutS bs none (some (1 + (rn : Int)))) = (TL.tl bs).take (1 + rn) := tl_cut_to bs (1 + rn)
              have hz : IsNm (cutS bs none (some (1 + (rn : Int)))) := by
                refine ⟨?_, ?_, ?_⟩
                · rw [t1, List.length_take]
                  omega
                · rw [t1, List.length_take]
                  omega
                · rw [t1]
                  exact fun x hx => cb x (List.mem_of_mem_take hx)
              have b1 : (cutS bs none (some (1 + (rn : Int)))).length ≤ sizeLine := len_tl_le (n := 8) hz.2.1 (by decide)
              rcases hy11 with rfl | ⟨_, rfl⟩ <;> simp! [nE, eqD_int, k0, k1, q4, b1, hz]
        · rintro e ⟨g', c', z, hz, rfl⟩
          rw [sq_ap, fp_seq]
          refine fp_while (fun e => ∃ (z : Str) (at2 : Nat), IsNm z ∧ e = nE sp m g' c' n way bs pl at2 ns (some (.d x)) (some (.d (.int kd))) (some (.d (.str z))) ∧ at2 ≤ 676 ∧ ∀ j, j < at2 → spare j ∈ ns ∨ spare j = z) (fun e => 676 - slotNat e 7) ⟨z, at_, hz, rfl, hat, fun j hj => .inl (hu j hj)⟩ ?_
          rintro e ⟨z, at2, hz, rfl, h2, hu2⟩
          refine ⟨decide (z ∈ ns), nE sp m g' c' n way bs pl at2 ns (some (.d x)) (some (.d (.int kd))) (some (.d (.str z))), by simp! [nE, inD_list], fun hc => ?_, fun hc => ?_⟩
          · have hzm : z ∈ ns := of_decide_eq_true hc
            have hu3 : ∀ j, j < at2 → spare j ∈ ns := fun j hj => by
              rcases hu2 j hj with h | h
              · exact h
              · rw [h]; exact hzm
            have ha2 : at2 ≤ ns.length := used_le h2 hu3
            have hsp' := hsp at2 (by omega)
            refine fp_conseq (fun e => e = nE sp m g' c' n way bs pl (at2 + 1) ns (some (.d x)) (some (.d (.int kd))) (some (.d (.str (spare at2))))) (by simp! [nE, hsp']) ?_
            rintro _ rfl
            refine ⟨⟨spare at2, at2 + 1, spare_nm (by omega), rfl, by omega, fun j hj => ?_⟩, ?_⟩
            · by_cases hj2 : j < at2
              · exact .inl (hu3 j hj2)
              · have : j = at2 := by omega
                subst this
                exact .inr rfl
            · show 676 - ((at2 + 1 : Nat) : Int).toNat < 676 - (at2 : Int).toNat
              omega
          · have hzm : z ∉ ns := of_decide_eq_false hc
            have hsz : ns.length < sizeLine := big' (by omega)
            rw [sq_ap]
            refine fp_conseq (fun e => e = nE sp m g' c' n way bs pl at2 (ns ++ [z]) (some (.d x)) (some (.d (.int kd))) (some (.d (.str z)))) (by simp! [nE, hsz]) ?_
            rintro _ rfl
            refine ⟨g', c', ns ++ [z], at2, _, _, _, rfl, .inr ⟨_, rfl⟩, .inr ⟨_, rfl⟩, .inr ⟨_, rfl⟩, ?_, ?_, ?_, ?_, h2⟩
            · rw [List.length_append]
              show ns.length + 1 + r.length = n
              omega
            · rw [List.nodup_append]
              refine ⟨hnd, List.nodup_cons.mpr ⟨(fun h => nomatch h), List.nodup_nil⟩, fun a ha b hb => ?_⟩
              rcases List.mem_cons.mp hb with rfl | hb
              · exact fun e => hzm (by rw [← e]; exact ha)
              · cases hb
            · intro y hy
              rcases List.mem_append.mp hy with h | h
              · exact hnm y h
              · rcases List.mem_cons.mp h with rfl | h
                · exact hz
                · cases h
            · intro j hj
              rcases hu2 j hj with h | h
              · exact List.mem_append_left _ h
              · exact List.mem_append_right _ (by rw [h]; exact List.mem_cons_self)
  · rintro e ⟨g', c', ns, at_, y9, y10, y11, rfl, hy9, hy10, hy11, hlen, hnd, hnm, hu, hat⟩
    simp! [nE, EndR]
    refine ⟨ns, ?_, hnd, hnm, rfl⟩
    simpa using hlen
end Tw

namespace Tw
open PySem PySem.Spec PyProof.Rows L2
theorem Wd.tops_le : ∀ w : Wd, w.tops.length ≤ w.size
  | .nil => Nat.le_refl _
  | .cons n i r => by
    have := Wd.tops_le r
    show r.tops.length + 1 ≤ i.size + r.size + 1
    omega
theorem Wd.data_len : ∀ w : Wd, w.data.length = w.tops.length
  | .nil => rfl
  | .cons n i r => congrArg (· + 1) (Wd.data_len r)
end Tw

namespace Tw
open PySem PySem.Spec PyProof.Rows L2
/-! ### dicts -/
theorem lkD_nil {α : Type} (k : Key) : lkD ([] : List (Key × α)) k = none := rfl
theorem lkD_cons {α : Type} (a : Key) (x : α) (r : List (Key × α)) (k : Key) : lkD ((a, x) :: r) k = if a = k then some x else lkD r k := by
  unfold lkD
  rw [List.find?_cons]
  by_cases c : a = k
  · rw [if_pos c]
    simp [c]
  · rw [if_neg c]
    simp [c]
theorem lkD_map_put {α : Type} (k : Key) (v : α) (k' : Key) : ∀ kvs : List (Key × α), lkD (kvs.map fun kv => if kv.1 = k then (kv.1, v) else kv) k' = if k' = k then (lkD kvs k').map (fun _ => v) else lkD kvs k'
  | [] => by simp [lkD_nil]
  | (a, x) :: r => by
    have ih := lkD_map_put k v k' r
    rw [List.map_cons]
    by_cases c : a = k
    · simp only [c, if_true]
      rw [lkD_cons, lkD_cons, ih]
      by_cases d : k' = k
      · simp [d]
      · have d' : ¬ k = k' := fun e => d e.symm
        simp [d, d']
    · simp only [c, if_false]
      rw [lkD_cons, lkD_cons, ih]
      by_cases d : k' = k
      · subst d
        simp [c]
      · simp [d]
theorem lkD_snoc {α : Type} (k : Key) (v : α) (k' : Key) : ∀ kvs : List (Key × α), lkD (kvs ++ [(k, v)]) k' = match lkD kvs k' with | some x => some x | none => if k = k' then some v else none
  | [] => by
    show lkD [(k, v)] k' = _
    rw [lkD_cons, lkD_nil]
  | (a, x) :: r => by
    rw [List.cons_append, lkD_cons, lkD_cons, lkD_snoc k v k' r]
    by_cases c : a = k'
    · simp [c]
    · simp [c]
theorem lkD_none {α : Type} (k : Key) : ∀ kvs : List (Key × α), (kvs.any fun kv => decide (kv.1 = k)) = false → lkD kvs k = none
  | [], _ => rfl
  | (a, x) :: r, h => by
    rw [List.any_cons, Bool.or_eq_false_iff] at h
    rw [lkD_cons, if_neg (of_decide_eq_false h.1), lkD_none k r h.2]
theorem lkD_some {α : Type} (k : Key) : ∀ kvs : List (Key × α), (kvs.any fun kv => decide (kv.1 = k)) = true → ∃ x, lkD kvs k = some x
  | [], h => nomatch h
  | (a, x) :: r, h => by
    rw [lkD_cons]
    by_cases c : a = k
    · exact ⟨x, if_pos c⟩
    · rw [if_neg c]
      refine lkD_some k r ?_
      rw [List.any_cons] at h
      simpa [c] using h
theorem lkD_put {α : Type} (kvs : List (Key × α)) (k : Key) (v : α) (k' : Key) : lkD (putD kvs k v) k' = if k' = k then some v else lkD kvs k' := by
  unfold putD
  split
  · rename_i h
    rw [lkD_map_put]
    by_cases c : k' = k
    · subst c
      obtain ⟨x, e⟩ := lkD_some _ _ h
      simp [e]
    · simp [c]
  · rename_i h
    have h' : (kvs.any fun kv => decide (kv.1 = k)) = false := by
      cases z : (kvs.any fun kv => decide (kv.1 = k)) with
      | false => rfl
      | true => exact absurd z h
    rw [lkD_snoc]
    by_cases c : k' = k
    · subst c
      rw [lkD_none _ _ h']
    · rw [if_neg c]
      have c' : ¬ k = k' := fun e => c e.symm
      cases lkD kvs k' with
      | none => simp [c']
      | some x => rfl
theorem putD_len {α : Type} {kvs : List (Key × α)} {k : Key} {v : α} : (putD kvs k v).length ≤ kvs.length + 1 ∧ kvs.length ≤ (putD kvs k v).length := by
  unfold putD
  split
  · rw [List.length_map]
    omega
  · rw [List.length_append, List.length_cons, List.length_nil]
    omega
/-! ### the dict of kids -/
end Tw

namespace Tw
open PySem PySem.Spec PyProof.Rows L2
theorem cutD_to {α : Type} (zs : List α) (a : Nat) : cutD zs none (some (a : Int)) = zs.take a := by
  unfold cutD
  rw [HT.sIx_nat, HT.sIx_none, List.drop_zero, Nat.sub_zero]
  by_cases h : a ≤ zs.length
  · rw [Nat.min_eq_left h]
  · rw [Nat.min_eq_right (by omega), List.take_of_length_le (Nat.le_refl _), List.take_of_length_le (by omega)]
theorem cutD_from {α : Type} (zs : List α) (a : Nat) : cutD zs (some (a : Int)) none = zs.drop a := by
  unfold cutD
  rw [HT.sIx_nat, HT.sIx_none]
  by_cases h : a ≤ zs.length
  · rw [Nat.min_eq_left h]
    exact List.take_of_length_le (by rw [List.length_drop]; omega)
  · rw [Nat.min_eq_right (by omega), List.drop_of_length_le (Nat.le_refl _), List.drop_of_length_le (by omega)]
    simp
end Tw

namespace Tw
open PySem PySem.Spec PyProof.Rows L2
/-! ### the dict of depths -/
end Tw

namespace Tw
open PySem PySem.Spec PyProof.Rows L2
end Tw

namespace Tw
open PySem PySem.Spec PyProof.Rows L2
theorem FP.mono_eq {N : Env → Prop} {R : A → Env → Prop} {f : Fl} {e : Env} (h : f = .nx e) (k : N e) : FP N R f := by
  rw [h]
  exact .nx k
theorem FP.ifT {N : Env → Prop} {R : A → Env → Prop} {c : MT} {a b : MS} {env e : Env} {te : List A} (h : c env te = .ok true e) (k : FP N R (a e te)) : FP N R (mIfS c a b env te) := by
  rw [ev_mIfS, h]
  exact k
theorem FP.asg {N : Env → Prop} {R : A → Env → Prop} {m : ME} {g : MG} {env e e' : Env} {te : List A} {a : A} (h : m env te = .ok a e) (hg : g a e te = some e') (k : N e') : FP N R (mAsg m g env te) := by
  refine FP.mono_eq (e := e') ?_ k
  rw [ev_mAsg, h]
  show (match g a e te with | some e' => Fl.nx e' | none => Fl.bad) = _
  rw [hg]
end Tw

namespace Tw
open PySem PySem.Spec PyProof.Rows L2
theorem FP.ifF {N : Env → Prop} {R : A → Env → Prop} {c : MT} {a b : MS} {env e : Env} {te : List A} (h : c env te = .ok false e) (k : FP N R (b e te)) : FP N R (mIfS c a b env te) := by
  rw [ev_mIfS, h]
  exact k
theorem FP.ret {N : Env → Prop} {R : A → Env → Prop} {m : ME} {env e : Env} {te : List A} {a : A} (h : m env te = .ok a e) (k : R a e) : FP N R (mRet m env te) := by
  rw [ev_mRet, h]
  exact .rt k
end Tw

namespace Tw
open PySem PySem.Spec PyProof.Rows L2
def Wd.tks (w : Wd) : List Dt := w.toks.map fun p => .str (tkS p)
theorem Wd.tks_cons (n : Str) (i r : Wd) : (Wd.cons n i r).tks = .str (("+" : Str) ++ n) :: (i.tks ++ .str (("-" : Str) ++ n) :: r.tks) := by
  unfold Wd.tks
  show ((true, n) :: (i.toks ++ (false, n) :: r.toks)).map (fun p => PyData.str (tkS p)) = _
  rw [List.map_cons, List.map_append, List.map_cons]
  rfl
theorem Wd.tks_len (w : Wd) : w.tks.length = 2 * w.size := by
  unfold Wd.tks
  rw [List.length_map, Wd.toks_len]
end Tw

namespace Tw
open PySem PySem.Spec PyProof.Rows L2
/-- what waits: a text, or a tree -/
inductive Itm where
  | s (z : Str)
  | t (n : Str) (i : Wd)
def Itm.dat : Itm → Dt
  | .s z => .str z
  | .t n i => .tuple [.str n, .tuple i.data]
def Itm.out : Itm → List Dt
  | .s z => [.str z]
  | .t n i => .str (tkS (true, n)) :: (i.tks ++ [.str (tkS (false, n))])
def Itm.siz : Itm → Nat
  | .s _ => 1
  | .t _ i => 2 * i.size + 2
def Itm.nm : Itm → Prop
  | .s _ => True
  | .t n i => IsNm n ∧ ∀ z ∈ i.names, IsNm z
def Wd.trees : Wd → List Itm
  | .nil => []
  | .cons n i r => .t n i :: r.trees
theorem Wd.trees_dat : ∀ w : Wd, w.trees.map Itm.dat = w.data
  | .nil => rfl
  | .cons n i r => congrArg (PyData.tuple [.str n, .tuple i.data] :: ·) (Wd.trees_dat r)
theorem Wd.trees_out : ∀ w : Wd, (w.trees.map Itm.out).flatten = w.tks
  | .nil => rfl
  | .cons n i r => by
    rw [Wd.tks_cons]
    show Itm.out (.t n i) ++ (r.trees.map Itm.out).flatten = _
    rw [Wd.trees_out r]
    show (PyData.str (tkS (true, n)) :: (i.tks ++ [.str (tkS (false, n))])) ++ r.tks = _
    rw [List.cons_append, List.append_assoc]
    rfl
theorem Wd.trees_siz : ∀ w : Wd, (w.trees.map Itm.siz).sum = 2 * w.size
  | .nil => rfl
  | .cons n i r => by
    show 2 * i.size + 2 + (r.trees.map Itm.siz).sum = 2 * (i.size + r.size + 1)
    rw [Wd.trees_siz r]
    omega
theorem Wd.trees_nm : ∀ {w : Wd}, (∀ z ∈ w.names, IsNm z) → ∀ x ∈ w.trees, x.nm
  | .cons n i r, h, x, hx => by
    rcases List.mem_cons.mp hx with rfl | hx
    · exact ⟨h n List.mem_cons_self, fun z hz => h z (List.mem_cons_of_mem _ (List.mem_append_left _ hz))⟩
    · exact Wd.trees_nm (fun z hz => h z (List.mem_cons_of_mem _ (List.mem_append_right _ hz))) x hx
theorem siz_pos (x : Itm) : 1 ≤ x.siz := by
  cases x with
  | s _ => exact Nat.le_refl _
  | t _ i => show 1 ≤ 2 * i.size + 2; omega
theorem len_le_siz : ∀ S : List Itm, S.length ≤ (S.map Itm.siz).sum
  | [] => Nat.le_refl _
  | x :: r => by
    have := len_le_siz r
    have := siz_pos x
    rw [List.length_cons, List.map_cons, List.sum_cons]
    omega
theorem len_out : ∀ S : List Itm, (S.map Itm.out).flatten.length = (S.map Itm.siz).sum
  | [] => rfl
  | x :: r => by
    rw [List.map_cons, List.flatten_cons, List.length_append, List.map_cons, List.sum_cons, len_out r]
    cases x with
    | s _ => rfl
    | t _ i =>
      show (PyData.str _ :: (i.tks ++ [_])).length + _ = 2 * i.size + 2 + _
      rw [List.length_cons, List.length_append, Wd.tks_len]
      rfl
theorem neD_nil (xs : List Dt) : neD (.list xs) (.list []) = some (.bool (!xs.isEmpty)) := by
  unfold neD
  rw [if_pos (by simp [okEq, emptyEq])]
  cases xs with
  | nil => rfl
  | cons x r => rfl
def roE (w : Wd) (F Wt : List Dt) (y3 : Option A) : Env := [some (.d (.tuple w.data)), some (.own (.l F)), some (.own (.l Wt)), y3]
theorem fp_whileN {N : Env → Prop} {R : A → Env → Prop} {c : MT} {b : MS} {te : List A} (I : Nat → Env → Prop)
    (step : ∀ n e, I n e → ∃ x e1, c e te = .ok x e1 ∧ (x = true → FP (fun e2 => ∃ k, k < n ∧ I k e2) R (b e1 te)) ∧ (x = false → N e1)) : ∀ (n : Nat) (env : Env), I n env → FP N R (mWhile c b env te) := by
  intro n
  induction n using Nat.strongRecOn with
  | ind n ih =>
    intro e h
    obtain ⟨x, e1, h1, ht, hf⟩ := step n e h
    rw [mWhile_eq, h1]
    show FP N R (if x = true then _ else _)
    cases x with
    | false => exact .nx (hf rfl)
    | true =>
      rw [if_pos rfl]
      have h2 := ht rfl
      cases eb : b e1 te with
      | nx e2 =>
        rw [eb, fp_nx] at h2
        obtain ⟨k, hk, hi⟩ := h2
        exact ih k hk e2 hi
      | rt a e2 => rw [eb, fp_rt] at h2; exact .rt h2
      | bk e2 => rw [eb] at h2; exact nomatch h2
      | ct e2 => rw [eb] at h2; exact nomatch h2
      | ex x e2 => rw [eb] at h2; exact nomatch h2
      | bad => rw [eb] at h2; exact nomatch h2
theorem row_of_ok (w : Wd) (hs : w.size ≤ 10000) (hnm : ∀ z ∈ w.names, IsNm z) : f_row_of [.d (.tuple w.data)] = .ok (.d (.tuple w.tks)) [.d (.tuple w.data)] := by
  suffices h : DOk (fun r ios => r = .d (.tuple w.tks) ∧ ios = [.d (.tuple w.data)]) (f_row_of [.d (.tuple w.data)]) by
    obtain ⟨a, ios, e, rfl, rfl⟩ := h.ex
    exact e
  unfold f_row_of
  refine run_ok ?_
  unfold m_row_of
  rw [fp_seq]
  refine FP.mono_eq (e := [some (.d (.tuple w.data)), some (.own (.l [])), none, none]) (by simp!) ?_
  rw [sq_ap, fp_seq]
  refine FP.mono_eq (e := roE w [] w.data.reverse none) (by simp! [roE]) ?_
  rw [sq_ap, fp_seq]
  refine fp_whileN (fun n e => ∃ (S : List Itm) (F : List Dt) (y3 : Option A), e = roE w F (S.map Itm.dat).reverse y3 ∧ (y3 = none ∨ ∃ a, y3 = some (.d a)) ∧ (∀ x ∈ S, x.nm) ∧ F ++ (S.map Itm.out).flatten = w.tks ∧ n = (S.map Itm.siz).sum) ?_ _ _ ⟨w.trees, [], none, by rw [Wd.trees_dat], .inl rfl, Wd.trees_nm hnm, Wd.trees_out w, rfl⟩
  rintro n e ⟨S, F, y3, rfl, hy, hS, hF, rfl⟩
  have hlen : F.length + (S.map Itm.siz).sum = 2 * w.size := by
    have := congrArg List.length hF
    rw [List.length_append, len_out, Wd.tks_len] at this
    exact this
  cases S with
  | nil =>
    refine ⟨false, roE w F [] y3, by rcases hy with rfl | ⟨_, rfl⟩ <;> simp! [roE, neD_nil], (fun h => nomatch h), fun _ => ?_⟩
    have hF' : F = w.tks := by
      rw [← hF]
      exact (List.append_nil _).symm
    subst hF'
    rw [sq_ap]
    rcases hy with rfl | ⟨_, rfl⟩ <;> simp! [roE, EndR]
  | cons x S =>
    have hsl := len_le_siz S
    rw [List.map_cons, List.sum_cons] at hlen
    refine ⟨true, roE w F ((S.map Itm.dat).reverse ++ [x.dat]) y3, by rcases hy with rfl | ⟨_, rfl⟩ <;> simp! [roE, neD_nil], fun _ => ?_, (fun h => nomatch h)⟩
    rw [fp_seq]
    refine FP.mono_eq (e := roE w F (S.map Itm.dat).reverse (some (.d x.dat))) (by rcases hy with rfl | ⟨_, rfl⟩ <;> simp! [roE]) ?_
    rw [sq_ap]
    cases x with
    | s z =>
      have hz : F.length < sizeLine := big' (by omega)
      have k1 : kitB "str" "str" = some true := by decide +kernel
      refine FP.ifT (e := roE w F (S.map Itm.dat).reverse (some (.d (.str z)))) (by simp! [roE, Itm.dat, k1]) ?_
      refine FP.mono_eq (e := roE w (F ++ [.str z]) (S.map Itm.dat).reverse (some (.d (.str z)))) (by simp! [roE, hz]) ?_
      refine ⟨_, ?_, S, _, _, rfl, .inr ⟨_, rfl⟩, fun y hy => hS y (List.mem_cons_of_mem _ hy), ?_, rfl⟩
      · rw [List.map_cons, List.sum_cons]
        show _ < 1 + _
        omega
      · rw [← hF]
        simp [Itm.out]
    | t nm i =>
      have k1 : kitB "tuple" "str" = some false := by decide +kernel
      obtain ⟨inm, hin⟩ := hS (.t nm i) List.mem_cons_self
      have hnl := nm_len inm
      have q1 := begin_ok nm (by omega)
      have q2 := end_ok nm (by omega)
      have hx : (Itm.t nm i).siz = 2 * i.size + 2 := rfl
      have hil := Wd.tops_le i
      have hid := Wd.data_len i
      have z1 : F.length < sizeLine := big' (by omega)
      have z2 : S.length < sizeLine := big' (by omega)
      have z3 : S.length + 1 + i.data.length ≤ sizeLine := big (by omega)
      have a0 : ∀ x y : Dt, atI [x, y] 0 = some x := fun _ _ => rfl
      have a1 : ∀ x y : Dt, atI [x, y] 1 = some y := fun _ _ => rfl
      generalize f_begin_of = FB at q1 ⊢
      generalize f_end_of = FE at q2 ⊢
      refine FP.ifF (e := roE w F (S.map Itm.dat).reverse (some (.d (Itm.t nm i).dat))) (by simp! [roE, Itm.dat, k1]) ?_
      rw [fp_seq]
      refine FP.mono_eq (e := roE w (F ++ [.str (tkS (true, nm))]) (S.map Itm.dat).reverse (some (.d (Itm.t nm i).dat))) (by simp! [roE, Itm.dat, a0, q1, z1]) ?_
      rw [sq_ap, fp_seq]
      refine FP.mono_eq (e := roE w (F ++ [.str (tkS (true, nm))]) ((S.map Itm.dat).reverse ++ [.str (tkS (false, nm))]) (some (.d (Itm.t nm i).dat))) (by simp! [roE, Itm.dat, a0, q2, z2]) ?_
      rw [sq_ap]
      refine FP.mono_eq (e := roE w (F ++ [.str (tkS (true, nm))]) ((S.map Itm.dat).reverse ++ [.str (tkS (false, nm))] ++ i.data.reverse) (some (.d (Itm.t nm i).dat))) (by simp! [roE, Itm.dat, a1, z3]) ?_
      refine ⟨_, ?_, i.trees ++ .s (tkS (false, nm)) :: S, F ++ [.str (tkS (true, nm))], some (.d (Itm.t nm i).dat), ?_, .inr ⟨_, rfl⟩, ?_, ?_, rfl⟩
      · rw [List.map_append, List.sum_append, Wd.trees_siz, List.map_cons, List.sum_cons, List.map_cons, List.sum_cons]
        show 2 * i.size + (1 + _) < 2 * i.size + 2 + _
        omega
      · simp [Wd.trees_dat, Itm.dat]
      · intro y hy
        rcases List.mem_append.mp hy with h | h
        · exact Wd.trees_nm hin y h
        · rcases List.mem_cons.mp h with rfl | h
          · trivial
          · exact hS y (List.mem_cons_of_mem _ h)
      · rw [← hF]
        simp [Itm.out, Wd.trees_out]
end Tw

namespace Tw
open PySem PySem.Spec PyProof.Rows L2
theorem toks_begin : ∀ w : Wd, (w.toks.filter (·.1)).map (·.2) = w.names
  | .nil => rfl
  | .cons n i r => by
    show (((true, n) :: (i.toks ++ (false, n) :: r.toks)).filter (·.1)).map (·.2) = n :: (i.names ++ r.names)
    rw [List.filter_cons, if_pos rfl, List.filter_append, List.filter_cons, if_neg (by simp), List.map_cons, List.map_append, toks_begin i, toks_begin r]
theorem plusS : ("+" : Str) = ⟨#[43]⟩ := by decide +kernel
theorem plus_tk (p : Bool × Str) : decide ((⟨#[if p.1 = true then 43 else 45]⟩ : Str) = ("+" : Str)) = p.1 := by
  rw [plusS]
  cases p.1 with
  | true => decide +kernel
  | false => decide +kernel
theorem names_of_ok (w : Wd) (hs : w.size ≤ 10000) (hnm : ∀ z ∈ w.names, IsNm z) : f_names_of [.d (.tuple w.data)] = .ok (.d (.tuple (w.names.map .str))) [.d (.tuple w.data)] := by
  suffices h : DOk (fun r ios => r = .d (.tuple (w.names.map .str)) ∧ ios = [.d (.tuple w.data)]) (f_names_of [.d (.tuple w.data)]) by
    obtain ⟨a, ios, e, rfl, rfl⟩ := h.ex
    exact e
  unfold f_names_of
  refine run_ok ?_
  unfold m_names_of
  have q := row_of_ok w hs hnm
  generalize f_row_of = FR at q ⊢
  have htl := Wd.toks_len w
  have key : ∃ ys e', mLc .d (mSeqI (mD (mCall (noXf FR) [false] (mCons (mVar 0) mNil)))) (gN 1) (mTst (mOp (fl2 eqD) (mOp ixA (mVar 1) (mC (.int 0))) (mC (.str "+")))) (mD (mSl (mVar 1) (mPart (mC (.int 1))) mNoPart)) [1] [some (.d (.tuple w.data)), none] [] = .ok (.own (.l ys)) e' ∧ ∃ done rest, w.toks = done ++ rest ∧ ([] : List Dt) = rest.map (fun p => PyData.str (tkS p)) ∧ ys = (done.filter (·.1)).map (fun p => PyData.str p.2) ∧ e' = [some (.d (.tuple w.data)), none] := by
    refine lc_ok (fun rr acc e => ∃ done rest, w.toks = done ++ rest ∧ rr = rest.map (fun p => PyData.str (tkS p)) ∧ acc = (done.filter (·.1)).map (fun p => PyData.str p.2) ∧ e = [some (.d (.tuple w.data)), none]) (as := [.d (.tuple w.tks)]) (rd := fun _ => some w.tks) (xs := w.tks) (e := [some (.d (.tuple w.data)), none]) (by simp! [q]) (by simp!) ⟨[], w.toks, rfl, rfl, rfl, by simp!⟩ (fun _ _ _ _ => rfl) ?_
    rintro x rr acc e ⟨done, rest, h1, h2, h3, rfl⟩
    cases rest with
    | nil => cases h2
    | cons p rest =>
      rw [List.map_cons] at h2
      injection h2 with e1 e2
      subst e1 e2
      have hp : p.2 ∈ w.names := Wd.toks_mem (by rw [h1]; exact List.mem_append_right _ List.mem_cons_self)
      have hpl := nm_len (hnm _ hp)
      have a0 := tk_at0 p
      have ct := tk_cut p
      have pk := plus_tk p
      have hz : p.2.length ≤ sizeLine := big (by omega)
      have hal : acc.length < sizeLine := by
        rw [h3, List.length_map]
        have := List.length_filter_le (·.1) done
        have : done.length ≤ w.toks.length := by rw [h1, List.length_append]; omega
        exact big' (by omega)
      refine ⟨[some (.d (.tuple w.data)), some (.d (.str (tkS p)))], by simp!, p.1, [some (.d (.tuple w.data)), some (.d (.str (tkS p)))], by simp! only [List.getElem?_cons_succ, List.getElem?_cons_zero, a0, eqD_str, pk], fun hb => ⟨.str p.2, [some (.d (.tuple w.data)), some (.d (.str (tkS p)))], by simp! [ct, hz], hal, by simp!, done ++ [p], rest, by rw [h1]; simp, rfl, ?_, by simp!⟩, fun hb => ⟨by simp!, done ++ [p], rest, by rw [h1]; simp, rfl, ?_, by simp!⟩⟩
      · rw [h3, List.filter_append, List.filter_cons, if_pos hb, List.map_append]
        rfl
      · rw [h3, List.filter_append, List.filter_cons, if_neg (by rw [hb]; exact Bool.false_ne_true), List.map_append]
        simp
  obtain ⟨ys, e', hk, done, rest, h1, h2, h3, rfl⟩ := key
  cases rest with
  | cons _ _ => cases h2
  | nil =>
    rw [List.append_nil] at h1
    have hy : ys = w.names.map .str := by
      rw [h3, ← h1, ← toks_begin w, List.map_map]
      rfl
    subst hy
    refine FP.ret (a := .d (.tuple (w.names.map .str))) (e := [some (.d (.tuple w.data)), none]) ?_ ⟨_, rfl, rfl, rfl⟩
    show mCB (one tupA) (mCons (mLc .d (mSeqI (mD (mCall (noXf FR) [false] (mCons (mVar 0) mNil)))) (gN 1) (mTst (mOp (fl2 eqD) (mOp ixA (mVar 1) (mC (.int 0))) (mC (.str "+")))) (mD (mSl (mVar 1) (mPart (mC (.int 1))) mNoPart)) [1]) mNil) [some (.d (.tuple w.data)), none] [] = _
    rw [ev_mCB, ev_mCons, hk]
    simp!
end Tw

namespace Tw
open PySem PySem.Spec PyProof.Rows L2
end Tw

namespace Tw
open PySem PySem.Spec PyProof.Rows L2
end Tw

namespace Tw
open PySem PySem.Spec PyProof.Rows L2
/-! ### who lies in whom -/
def parsD (p : Dt) : Wd → List (Str × Dt)
  | .nil => []
  | .cons n i r => (n, p) :: (parsD (.str n) i ++ parsD p r)
theorem parsD_names : ∀ (p : Dt) (w : Wd), (parsD p w).map (·.1) = w.names
  | _, .nil => rfl
  | p, .cons n i r => by
    show n :: (parsD (.str n) i ++ parsD p r).map (·.1) = n :: (i.names ++ r.names)
    rw [List.map_append, parsD_names, parsD_names]
theorem fun_of_nodup {α β : Type} : ∀ {l : List (α × β)}, (l.map (·.1)).Nodup → ∀ x ∈ l, ∀ y ∈ l, x.1 = y.1 → x = y
  | q :: r, nd, x, hx, y, hy, e => by
    rw [List.map_cons, List.nodup_cons] at nd
    rcases List.mem_cons.mp hx with h1 | h1
    · rcases List.mem_cons.mp hy with h2 | h2
      · rw [h1, h2]
      · exact absurd (by rw [← h1, e]; exact List.mem_map_of_mem h2) nd.1
    · rcases List.mem_cons.mp hy with h2 | h2
      · exact absurd (by rw [← h2, ← e]; exact List.mem_map_of_mem h1) nd.1
      · exact fun_of_nodup nd.2 x h1 y h2 e
/-- what waits: a tree and what it lies in -/
structure Pt where
  p : Dt
  n : Str
  i : Wd
def Pt.dat (x : Pt) : Dt := .tuple [x.p, .tuple [.str x.n, .tuple x.i.data]]
def Pt.pen (x : Pt) : List (Str × Dt) := (x.n, x.p) :: parsD (.str x.n) x.i
def Wd.pts (p : Dt) : Wd → List Pt
  | .nil => []
  | .cons n i r => ⟨p, n, i⟩ :: r.pts p
theorem Wd.pts_dat (p : Dt) : ∀ w : Wd, (w.pts p).map Pt.dat = w.data.map fun t => .tuple [p, t]
  | .nil => rfl
  | .cons n i r => congrArg (Pt.dat ⟨p, n, i⟩ :: ·) (Wd.pts_dat p r)
theorem Wd.pts_pen (p : Dt) : ∀ w : Wd, ((w.pts p).map Pt.pen).flatten = parsD p w
  | .nil => rfl
  | .cons n i r => by
    show Pt.pen ⟨p, n, i⟩ ++ ((r.pts p).map Pt.pen).flatten = _
    rw [Wd.pts_pen p r]
    rfl
theorem Wd.pts_siz (p : Dt) : ∀ w : Wd, ((w.pts p).map fun x => x.i.size + 1).sum = w.size
  | .nil => rfl
  | .cons n i r => by
    show i.size + 1 + ((r.pts p).map fun x => x.i.size + 1).sum = i.size + r.size + 1
    rw [Wd.pts_siz p r]
    omega
def paE (w : Wd) (kvs : List (Key × Dt)) (Wt : List Dt) (y3 y4 : Option A) : Env := [some (.d (.tuple w.data)), some (.own (.dc kvs)), some (.own (.l Wt)), y3, y4, none]
theorem pa_first (w : Wd) (hs : w.size ≤ 10000) : mLc .d (mSeqI (mVar 0)) (gN 4) mYes (mTup (mCons (mC .none) (mCons (mD (mVar 4)) mNil))) [4] [some (.d (.tuple w.data)), some (.own (.dc [])), none, none, none, none] [] = .ok (.own (.l ((w.pts .none).map Pt.dat))) [some (.d (.tuple w.data)), some (.own (.dc [])), none, none, none, none] := by
  have s2 : 2 ≤ sizeLine := big (by decide)
  obtain ⟨ys, e', hk, h1, rfl⟩ := lc_ok (kd := .d) (mi := mSeqI (mVar 0)) (g := gN 4) (tt := mYes) (el := mTup (mCons (mC .none) (mCons (mD (mVar 4)) mNil))) (vs := [4]) (env := [some (.d (.tuple w.data)), some (.own (.dc [])), none, none, none, none]) (te := []) (fun rr acc e => acc ++ rr.map (fun t => .tuple [.none, t]) = w.data.map (fun t => .tuple [.none, t]) ∧ e = [some (.d (.tuple w.data)), some (.own (.dc [])), none, none, none, none]) (as := [.d (.tuple w.data)]) (rd := fun _ => some w.data) (xs := w.data) (e := [some (.d (.tuple w.data)), some (.own (.dc [])), none, none, none, none]) (by simp!) (by simp!) ⟨rfl, by simp!⟩ (fun _ _ _ _ => rfl) (by
    rintro x rr acc e ⟨h1, rfl⟩
    have hal : acc.length < sizeLine := by
      have := congrArg List.length h1
      rw [List.length_append, List.length_map, List.length_map, Wd.data_len] at this
      have := Wd.tops_le w
      exact big' (by omega)
    refine ⟨_, by simp!; rfl, true, _, rfl, fun _ => ⟨.tuple [.none, x], _, by simp! [s2]; rfl, hal, by simp!, ?_, by simp!⟩, fun z => nomatch z⟩
    rw [List.append_assoc]
    exact h1)
  rw [hk, Wd.pts_dat, ← h1]
  simp
end Tw

namespace Tw
open PySem PySem.Spec PyProof.Rows L2
def paE2 (w : Wd) (kvs : List (Key × Dt)) (Wt : List Dt) (x : Pt) : Env := [some (.d (.tuple w.data)), some (.own (.dc kvs)), some (.own (.l Wt)), some (.d x.p), some (.d (.tuple [.str x.n, .tuple x.i.data])), none]
theorem pa_next (w : Wd) (kvs : List (Key × Dt)) (Wt : List Dt) (x : Pt) (hs : x.i.size ≤ 10000) (te : List A) (ht : anyC (isRf 5) (paE2 w kvs Wt x) te = false) : mLc .d (mSeqI (mD (mOp ixA (mVar 4) (mC (.int 1))))) (gN 5) mYes (mTup (mCons (mD (mOp ixA (mVar 4) (mC (.int 0)))) (mCons (mD (mVar 5)) mNil))) [5] (paE2 w kvs Wt x) [.rf 2 none] = .ok (.own (.l ((x.i.pts (.str x.n)).map Pt.dat))) (paE2 w kvs Wt x) := by
  have s2 : 2 ≤ sizeLine := big (by decide)
  have a0 : ∀ x y : Dt, atI [x, y] 0 = some x := fun _ _ => rfl
  have a1 : ∀ x y : Dt, atI [x, y] 1 = some y := fun _ _ => rfl
  obtain ⟨ys, e', hk, h1, rfl⟩ := lc_ok (kd := .d) (mi := mSeqI (mD (mOp ixA (mVar 4) (mC (.int 1))))) (g := gN 5) (tt := mYes) (el := mTup (mCons (mD (mOp ixA (mVar 4) (mC (.int 0)))) (mCons (mD (mVar 5)) mNil))) (vs := [5]) (env := paE2 w kvs Wt x) (te := [.rf 2 none]) (fun rr acc e => acc ++ rr.map (fun t => .tuple [.str x.n, t]) = x.i.data.map (fun t => .tuple [.str x.n, t]) ∧ e = paE2 w kvs Wt x) (as := [.d (.tuple x.i.data)]) (rd := fun _ => some x.i.data) (xs := x.i.data) (e := paE2 w kvs Wt x) (by simp! [paE2, a1]) (by simp! [paE2]) ⟨rfl, by simp! [paE2]⟩ (fun _ _ _ _ => rfl) (by
    rintro y rr acc e ⟨h1, rfl⟩
    have hal : acc.length < sizeLine := by
      have := congrArg List.length h1
      rw [List.length_append, List.length_map, List.length_map, Wd.data_len] at this
      have := Wd.tops_le x.i
      exact big' (by omega)
    refine ⟨_, by simp! [paE2]; rfl, true, _, rfl, fun _ => ⟨.tuple [.str x.n, y], _, by simp! [s2, a0]; rfl, hal, by simp!, ?_, by simp! [paE2]⟩, fun z => nomatch z⟩
    rw [List.append_assoc]
    exact h1)
  rw [hk, Wd.pts_dat, ← h1]
  simp
end Tw

namespace Tw
open PySem PySem.Spec PyProof.Rows L2
theorem parents_ok (w : Wd) (hs : w.size ≤ 10000) (nd : w.names.Nodup) : ∃ kvs : List (Key × Dt), (∀ x ∈ parsD .none w, lkD kvs (.inr x.1) = some x.2) ∧ f_all_parents [.d (.tuple w.data)] = .ok (.own (.dc kvs)) [.d (.tuple w.data)] := by
  suffices h : DOk (fun r ios => ∃ kvs : List (Key × Dt), (∀ x ∈ parsD .none w, lkD kvs (.inr x.1) = some x.2) ∧ r = .own (.dc kvs) ∧ ios = [.d (.tuple w.data)]) (f_all_parents [.d (.tuple w.data)]) by
    obtain ⟨a, ios, e, kvs, h, rfl, rfl⟩ := h.ex
    exact ⟨kvs, h, e⟩
  unfold f_all_parents
  refine run_ok ?_
  unfold m_all_parents
  rw [fp_seq]
  refine FP.mono_eq (e := [some (.d (.tuple w.data)), some (.own (.dc [])), none, none, none, none]) (by simp!) ?_
  rw [sq_ap, fp_seq]
  refine FP.asg (pa_first w hs) (e' := paE w [] ((w.pts .none).map Pt.dat) none none) (by simp! [paE]) ?_
  rw [sq_ap, fp_seq]
  have fn := fun_of_nodup (l := parsD .none w) (by rw [parsD_names]; exact nd)
  refine fp_whileN (fun n e => ∃ (S : List Pt) (kvs : List (Key × Dt)) (y3 y4 : Option A), e = paE w kvs (S.map Pt.dat).reverse y3 y4 ∧ ((y3 = none ∧ y4 = none) ∨ ∃ a b, y3 = some (.d a) ∧ y4 = some (.d b)) ∧ (∀ x ∈ (S.map Pt.pen).flatten, x ∈ parsD .none w) ∧ (∀ x ∈ parsD .none w, x ∈ (S.map Pt.pen).flatten ∨ lkD kvs (.inr x.1) = some x.2) ∧ kvs.length + n ≤ w.size ∧ n = (S.map fun x => x.i.size + 1).sum) ?_ _ _ ⟨(w.pts .none).reverse, [], none, none, by rw [List.map_reverse, List.reverse_reverse], .inl ⟨rfl, rfl⟩, ?_, ?_, ?_, rfl⟩
  · rintro n e ⟨S, kvs, y3, y4, rfl, hy, hp1, hp2, hl, rfl⟩
    cases S with
    | nil =>
      refine ⟨false, paE w kvs [] y3 y4, by rcases hy with ⟨rfl, rfl⟩ | ⟨_, _, rfl, rfl⟩ <;> simp! [paE, neD_nil], (fun h => nomatch h), fun _ => ?_⟩
      rw [sq_ap]
      refine FP.ret (a := .rf 1 none) (e := paE w kvs [] y3 y4) (by simp! [paE]) ⟨_, rfl, kvs, fun x hx => (hp2 x hx).resolve_left (fun h => nomatch h), rfl, rfl⟩
    | cons x S =>
      have hlx : kvs.length + (x.i.size + 1 + (S.map fun x => x.i.size + 1).sum) ≤ w.size := hl
      have hsl : S.length ≤ (S.map fun x => x.i.size + 1).sum := by
        clear hp1 hp2 hl hlx
        induction S with
        | nil => exact Nat.le_refl _
        | cons y r ih => rw [List.length_cons, List.map_cons, List.sum_cons]; omega
      refine ⟨true, paE w kvs ((S.map Pt.dat).reverse ++ [x.dat]) y3 y4, by rcases hy with ⟨rfl, rfl⟩ | ⟨_, _, rfl, rfl⟩ <;> simp! [paE, neD_nil], fun _ => ?_, (fun h => nomatch h)⟩
      rw [fp_seq]
      refine FP.mono_eq (e := paE2 w kvs (S.map Pt.dat).reverse x) (by rcases hy with ⟨rfl, rfl⟩ | ⟨_, _, rfl, rfl⟩ <;> simp! [paE, paE2, Pt.dat]) ?_
      rw [sq_ap, fp_seq]
      have a0 : ∀ x y : Dt, atI [x, y] 0 = some x := fun _ _ => rfl
      have hk : kvs.length < sizeLine := big' (by omega)
      refine FP.mono_eq (e := paE2 w (putD kvs (.inr x.n) x.p) (S.map Pt.dat).reverse x) (by simp! [paE2, wipeK, a0, hk]) ?_
      rw [sq_ap]
      have hxs : x.i.size ≤ 10000 := by omega
      have hn := pa_next w (putD kvs (.inr x.n) x.p) (S.map Pt.dat).reverse x hxs [] (by simp! [paE2])
      have hil := Wd.tops_le x.i
      have hzl : ((x.i.pts (.str x.n)).map Pt.dat).length ≤ x.i.size := by
        rw [Wd.pts_dat, List.length_map, Wd.data_len]
        exact hil
      have hz : S.length + ((x.i.pts (.str x.n)).map Pt.dat).length ≤ sizeLine := big (by omega)
      refine FP.mono_eq (e := paE2 w (putD kvs (.inr x.n) x.p) ((S.map Pt.dat).reverse ++ (x.i.pts (.str x.n)).map Pt.dat) x) ?_ ?_
      · generalize (x.i.pts (.str x.n)).map Pt.dat = ZS at *
        have hn' : mD (mLc .d (mSeqI (mD (mOp ixA (mVar 4) (mC (.int 1))))) (gN 5) mYes (mTup (mCons (mD (mOp ixA (mVar 4) (mC (.int 0)))) (mCons (mD (mVar 5)) mNil))) [5]) (paE2 w (putD kvs (.inr x.n) x.p) (S.map Pt.dat).reverse x) [.rf 2 none] = .ok (.d (.list ZS)) (paE2 w (putD kvs (.inr x.n) x.p) (S.map Pt.dat).reverse x) := by
          rw [ev_mD, hn]
          rfl
        generalize mD (mLc _ _ _ _ _ _) = ML at hn' ⊢
        simp only [paE2] at hn'
        simp! [paE2, hn', hz]
      · refine ⟨_, ?_, (x.i.pts (.str x.n)).reverse ++ S, putD kvs (.inr x.n) x.p, some (.d x.p), some (.d (.tuple [.str x.n, .tuple x.i.data])), ?_, .inr ⟨_, _, rfl, rfl⟩, ?_, ?_, ?_, rfl⟩
        · rw [List.map_append, List.sum_append, List.map_reverse, List.sum_reverse, Wd.pts_siz]
          rw [List.map_cons, List.sum_cons]
          omega
        · simp [paE, paE2]
        · intro y hy
          refine hp1 y ?_
          rw [List.map_append, List.flatten_append] at hy
          rw [List.map_cons, List.flatten_cons]
          rcases List.mem_append.mp hy with h | h
          · refine List.mem_append_left _ (List.mem_cons_of_mem _ ?_)
            rw [← Wd.pts_pen]
            simpa using h
          · exact List.mem_append_right _ h
        · intro y hy
          rw [List.map_append, List.flatten_append]
          have hxm : (x.n, x.p) ∈ parsD .none w := hp1 _ (by rw [List.map_cons, List.flatten_cons]; exact List.mem_append_left _ List.mem_cons_self)
          by_cases c : y.1 = x.n
          · have : y = (x.n, x.p) := fn y hy _ hxm c
            subst this
            exact .inr (by rw [lkD_put, if_pos rfl])
          · rcases hp2 y hy with h | h
            · rw [List.map_cons, List.flatten_cons] at h
              rcases List.mem_append.mp h with h | h
              · rcases List.mem_cons.mp h with h | h
                · exact absurd (by rw [h]) c
                · refine .inl (List.mem_append_left _ ?_)
                  rw [← Wd.pts_pen] at h
                  simpa using h
              · exact .inl (List.mem_append_right _ h)
            · exact .inr (by rw [lkD_put, if_neg (fun z => c (Sum.inr.inj z))]; exact h)
        · have := (putD_len (kvs := kvs) (k := .inr x.n) (v := x.p)).1
          rw [List.map_append, List.sum_append, List.map_reverse, List.sum_reverse, Wd.pts_siz]
          omega
  · intro x hx
    rw [← Wd.pts_pen]
    simpa using hx
  · intro x hx
    rw [← Wd.pts_pen] at hx
    exact .inl (by simpa using hx)
  · have := Wd.pts_siz .none w
    rw [List.map_reverse, List.sum_reverse, this]
    simp
end Tw

namespace Tw
open PySem PySem.Spec PyProof.Rows L2
/-! ### what a node lies in, from the nearest on -/
def Wd.path (a : Str) : Wd → Option (List Str)
  | .nil => none
  | .cons n i r => if n = a then some [] else match i.path a with
    | some p => some (p ++ [n])
    | none => r.path a
end Tw

namespace Tw
open PySem PySem.Spec PyProof.Rows L2
theorem chain_lt {ma mb mc : ME} {env : Env} {te : List A} {x y z : Nat} (ha : ∀ te, ma env te = .ok (.d (.int x)) env) (hb : ∀ te, mb env te = .ok (.d (.int y)) env) (hc : ∀ te, mc env te = .ok (.d (.int z)) env) : mChain ltD ltD ma mb mc env te = .ok (.d (.bool (decide (x < y ∧ y < z)))) env := by
  unfold mChain
  rw [ha]
  show Rs.bind (mb env _) _ = _
  rw [hb]
  by_cases c : x < y
  · have e : decide ((x : Int) < (y : Int)) = true := by simpa using c
    simp only [Rs.bind_ok, A.val, ltD, e, isIo, Bool.false_eq_true, if_false]
    rw [hc]
    simp [ev_fl2, A.val, ltD, c]
  · have e : decide ((x : Int) < (y : Int)) = false := by simpa using c
    simp only [Rs.bind_ok, A.val, ltD, e]
    simp [c]
end Tw

namespace Tw
open PySem PySem.Spec PyProof.Rows L2
abbrev tkD (p : Bool × Str) : Dt := .str (tkS p)
/-! ### rows as lists of ends -/
/-- a comprehension over data whose test and item change nothing -/
theorem lc_genR {mi : MI} {tt : MT} {el : ME} {j : Nat} {env : Env} {te as : List A} {xs : List Dt} {rd : Env → Option (List Dt)} (p : Dt → Bool) (f : Dt → Dt) (hm : mi env te = .ok (as, rd) env) (hr : rd env = some xs) (hj : env[j]? = some none) (ha : anyC (isRf j) env (as ++ te) = false) (hl : xs.length ≤ 100000)
    (ht : ∀ x ∈ xs, ∀ acc : List Dt, tt (env.set j (some (.d x))) (.own (.l acc) :: (as ++ te)) = .ok (p x) (env.set j (some (.d x)))) (he : ∀ x ∈ xs, p x = true → ∀ acc : List Dt, el (env.set j (some (.d x))) (.own (.l acc) :: (as ++ te)) = .ok (.d (f x)) (env.set j (some (.d x)))) :
    mLc .d mi (gN j) tt el [j] env te = .ok (.own (.l ((xs.filter p).map f))) env := by
  have hjl : j < env.length := by
    cases h : decide (j < env.length) with
    | true => exact of_decide_eq_true h
    | false =>
      rw [List.getElem?_eq_none (by have := of_decide_eq_false h; omega)] at hj
      cases hj
  have hset : env.set j none = env := by
    apply List.ext_getElem?
    intro k
    rw [List.getElem?_set]
    by_cases c : j = k
    · subst c; rw [if_pos rfl, if_pos hjl, hj]
    · rw [if_neg c]
  unfold anyC at ha
  rw [Bool.or_eq_false_iff] at ha
  obtain ⟨hae, hat⟩ := ha
  have hwo : ∀ (e1 : Env) (acc : List Dt), inE (isRf j) e1 = false → nIo e1[j]? = true → wipeOk e1 (.own (.l acc) :: (as ++ te)) [j] = true := fun e1 acc h1 h2 => by
    rw [wipeOk_cons, wipeOk_nil]
    show (true && !anyC (isRf j) e1 (.own (.l acc) :: (as ++ te)) && nIo e1[j]?) = true
    unfold anyC
    rw [h1, h2, List.any_cons, hat]
    rfl
  refine lc_pure (as := as) (rd := rd) (xs := xs) p f hm hr hl (hwo env [] hae (by rw [hj]; rfl)) hset ?_
  rintro x hx acc
  have hg : gN j (.d x) env (.own (.l acc) :: (as ++ te)) = some (env.set j (some (.d x))) := by
    refine if_pos ?_
    rw [ev_setOk, hj]
    unfold anyC
    rw [hae, List.any_cons, List.any_cons, hat]
    simp [hjl, nIo1, isRf, isIo]
  have hin : inE (isRf j) (env.set j (some (.d x))) = false := by
    unfold inE at hae ⊢
    rw [List.any_eq_false] at hae ⊢
    intro c hc
    rcases List.mem_or_eq_of_mem_set hc with h | h
    · exact hae c h
    · rw [h]; simp [isRf]
  have hjj : (env.set j (some (.d x)))[j]? = some (some (.d x)) := by rw [List.getElem?_set_self hjl]
  refine ⟨_, hg, ht x hx acc, fun h => he x hx h acc, fun acc' => hwo _ _ hin (by rw [hjj]; rfl), ?_⟩
  show (env.set j _).set j none = env
  rw [List.set_set, hset]
theorem lc_gen {mi : MI} {tt : MT} {el : ME} {j : Nat} {env : Env} {te as : List A} {xs : List Dt} (p : Dt → Bool) (f : Dt → Dt) (hm : mi env te = .ok (as, fun _ => some xs) env) (hj : env[j]? = some none) (ha : anyC (isRf j) env (as ++ te) = false) (hl : xs.length ≤ 100000)
    (ht : ∀ x ∈ xs, ∀ acc : List Dt, tt (env.set j (some (.d x))) (.own (.l acc) :: (as ++ te)) = .ok (p x) (env.set j (some (.d x)))) (he : ∀ x ∈ xs, p x = true → ∀ acc : List Dt, el (env.set j (some (.d x))) (.own (.l acc) :: (as ++ te)) = .ok (.d (f x)) (env.set j (some (.d x)))) :
    mLc .d mi (gN j) tt el [j] env te = .ok (.own (.l ((xs.filter p).map f))) env := lc_genR p f hm rfl hj ha hl ht he
end Tw

namespace Tw
open PySem PySem.Spec PyProof.Rows L2
/-! ### rows read: wood_from -/
abbrev Tok := Bool × Str
theorem seqI_ok {m : ME} {env e : Env} {te : List A} {D : Dt} {xs : List Dt} (h : m env te = .ok (.d D) e) (hD : D = .list xs ∨ D = .tuple xs) : mSeqI m env te = .ok ([.d D], fun _ => some xs) e := by
  rcases hD with rfl | rfl
  · rw [ev_mSeqI, h]
    rfl
  · rw [ev_mSeqI, h]
    rfl
end Tw

namespace Tw
open PySem PySem.Spec PyProof.Rows L2
/-! ### the law's own way to read a row -/
/-! ### some of the nodes alone -/
def Wd.keep (P : Str → Bool) : Wd → Wd
  | .nil => .nil
  | .cons n i r => if P n = true then .cons n (i.keep P) (r.keep P) else (i.keep P).app (r.keep P)
end Tw

namespace Tw
open PySem PySem.Spec PyProof.Rows L2
/-! ### what is a name -/
instance : DecidablePred IsLt := fun c => by unfold IsLt; infer_instance
instance (z : Str) : Decidable (IsNm z) := by unfold IsNm; infer_instance
end Tw

namespace Tw
open PySem PySem.Spec PyProof.Rows L2
/-! ### names for a skeleton -/
/-! ### gaps -/
end Tw

namespace Tw
open PySem PySem.Spec PyProof.Rows L2
/-! ### some of some names, in a drawn order -/
/-! ### equal data -/
theorem plainAll_of : ∀ {l : List Dt}, (∀ x ∈ l, x.plain = true) → PyData.plainAll l = true
  | [], _ => rfl
  | x :: l, h => by
    show (x.plain && PyData.plainAll l) = true
    rw [h x List.mem_cons_self, plainAll_of (fun y hy => h y (List.mem_cons_of_mem _ hy))]
    rfl
theorem depthAll_of {n : Nat} : ∀ {l : List Dt}, (∀ x ∈ l, x.depth ≤ n) → PyData.depthAll l ≤ n
  | [], _ => Nat.zero_le _
  | x :: l, h => by
    show max x.depth (PyData.depthAll l) ≤ n
    have h1 := h x List.mem_cons_self
    have h2 := depthAll_of (fun y hy => h y (List.mem_cons_of_mem _ hy))
    omega
end Tw

namespace Tw
open PySem PySem.Spec PyProof.Rows L2
/-! ### rows with numbers of gaps among the ends -/
inductive RI where
  | e (p : Tok)
  | g (k : Nat)
deriving DecidableEq
def RI.D : RI → Dt
  | .e p => tkD p
  | .g k => .int k
abbrev rowD (r : List RI) : Dt := .tuple (r.map RI.D)
def ix (p : Tok) : List RI → Nat
  | [] => 0
  | x :: r => if x = .e p then 0 else ix p r + 1
theorem ix_app {p : Tok} : ∀ {A B : List RI}, RI.e p ∉ A → ix p (A ++ B) = A.length + ix p B
  | [], B, _ => (Nat.zero_add _).symm
  | x :: A, B, h => by
    have h1 : ¬ x = .e p := fun e => h (by rw [e]; exact List.mem_cons_self)
    show (if x = .e p then 0 else ix p (A ++ B) + 1) = _
    rw [if_neg h1, ix_app (fun z => h (List.mem_cons_of_mem _ z)), List.length_cons]
    omega
theorem ix_hd {p : Tok} {B : List RI} : ix p (.e p :: B) = 0 := if_pos rfl
theorem ix_at {p : Tok} {A B : List RI} (h : RI.e p ∉ A) : ix p (A ++ .e p :: B) = A.length := by
  rw [ix_app h, ix_hd]
  rfl
/-! ### woods with numbers among the trees -/
inductive GW where
  | nil
  | cons (n : Str) (i r : GW)
  | gap (k : Nat) (r : GW)
namespace GW
def row : GW → List RI
  | nil => []
  | cons n i r => .e (true, n) :: (i.row ++ .e (false, n) :: r.row)
  | gap k r => .g k :: r.row
end GW
/-- the names that are open -/
def run : List Str → List RI → Option (List Str)
  | S, [] => some S
  | S, .g _ :: r => run S r
  | S, .e (true, n) :: r => run (n :: S) r
  | [], .e (false, _) :: _ => none
  | m :: S, .e (false, n) :: r => if m = n then run S r else none
theorem run_app : ∀ (a b : List RI) (S : List Str), run S (a ++ b) = (run S a).bind fun T => run T b
  | [], b, S => by simp [run]
  | .g k :: a, b, S => by
    show run S (a ++ b) = (run S a).bind _
    exact run_app a b S
  | .e (true, n) :: a, b, S => by
    show run (n :: S) (a ++ b) = (run (n :: S) a).bind _
    exact run_app a b _
  | .e (false, n) :: a, b, [] => rfl
  | .e (false, n) :: a, b, m :: S => by
    show (if m = n then run S (a ++ b) else none) = (if m = n then run S a else none).bind _
    by_cases c : m = n
    · rw [if_pos c, if_pos c]
      exact run_app a b S
    · rw [if_neg c, if_neg c]
      rfl
def Bal (r : List RI) : Prop := ∀ S, run S r = some S
theorem GW.bal : ∀ w : GW, Bal w.row
  | .nil => fun S => rfl
  | .cons n i r => fun S => by
    show run (n :: S) (i.row ++ .e (false, n) :: r.row) = some S
    rw [run_app, GW.bal i (n :: S)]
    show (if n = n then run S r.row else none) = some S
    rw [if_pos rfl]
    exact GW.bal r S
  | .gap k r => fun S => GW.bal r S
theorem Bal.app {a b : List RI} (ha : Bal a) (hb : Bal b) : Bal (a ++ b) := fun S => by
  rw [run_app, ha S]
  exact hb S
theorem Bal.node {n : Str} {a b : List RI} (ha : Bal a) (hb : Bal b) : Bal (.e (true, n) :: (a ++ .e (false, n) :: b)) := fun S => by
  show run (n :: S) (a ++ .e (false, n) :: b) = some S
  rw [run_app, ha (n :: S)]
  show (if n = n then run S b else none) = some S
  rw [if_pos rfl]
  exact hb S
theorem Bal.block {n : Str} {a : List RI} (ha : Bal a) : Bal (.e (true, n) :: (a ++ [.e (false, n)])) := Bal.node (b := []) ha (fun S => rfl)
/-- what stands behind so many open names -/
inductive Segs : List Str → List RI → Prop
  | last (w : GW) : Segs [] w.row
  | more (w : GW) {n : Str} {S : List Str} {r : List RI} (h : Segs S r) : Segs (n :: S) (w.row ++ .e (false, n) :: r)
theorem Segs.gap {S : List Str} {r : List RI} (k : Nat) (h : Segs S r) : Segs S (.g k :: r) := by
  cases h with
  | last w => exact .last (.gap k w)
  | more w h => exact .more (.gap k w) h
theorem Segs.node {n : Str} {S : List Str} {r : List RI} (h : Segs (n :: S) r) : Segs S (.e (true, n) :: r) := by
  cases h with
  | more w h =>
    cases h with
    | last v => exact .last (.cons n w v)
    | @more v m S r h =>
      have := Segs.more (.cons n w v) (n := m) h
      simpa [GW.row] using this
theorem segs_of : ∀ {r : List RI} {S : List Str}, run S r = some [] → Segs S r
  | [], S, h => by
    have : S = [] := Option.some.inj h
    subst this
    exact .last .nil
  | .g k :: r, S, h => Segs.gap k (segs_of (r := r) h)
  | .e (true, n) :: r, S, h => Segs.node (segs_of (r := r) h)
  | .e (false, n) :: r, [], h => nomatch h
  | .e (false, n) :: r, m :: S, h => by
    have h' : (if m = n then run S r else none) = some [] := h
    by_cases c : m = n
    · rw [if_pos c] at h'
      subst c
      exact .more .nil (segs_of h')
    · rw [if_neg c] at h'
      cases h'
theorem gw_of {r : List RI} (h : run [] r = some []) : ∃ w : GW, w.row = r := by
  cases segs_of h with
  | last w => exact ⟨w, rfl⟩
/-! ### the ends of a row -/
def ends : List RI → List Tok
  | [] => []
  | .e p :: r => p :: ends r
  | .g _ :: r => ends r
theorem ends_app : ∀ a b : List RI, ends (a ++ b) = ends a ++ ends b
  | [], b => rfl
  | .e p :: a, b => congrArg (p :: ·) (ends_app a b)
  | .g k :: a, b => ends_app a b
theorem mem_ends {p : Tok} : ∀ {r : List RI}, p ∈ ends r ↔ RI.e p ∈ r
  | [] => ⟨(fun h => nomatch h), (fun h => nomatch h)⟩
  | .e q :: r => by
    show p ∈ q :: ends r ↔ _
    rw [List.mem_cons, List.mem_cons, mem_ends (r := r)]
    exact ⟨fun h => h.imp (fun e => by rw [e]) id, fun h => h.imp (fun e => by cases e; rfl) id⟩
  | .g k :: r => by
    show p ∈ ends r ↔ _
    rw [List.mem_cons, mem_ends (r := r)]
    exact ⟨.inr, fun h => h.resolve_left (fun e => by cases e)⟩
/-- a row of a wood, with numbers or without -/
structure Ok (r : List RI) : Prop where
  bal : Bal r
  nd : (ends r).Nodup
theorem GW.pair : ∀ (w : GW) (n : Str), RI.e (true, n) ∈ w.row ↔ RI.e (false, n) ∈ w.row
  | .nil, n => ⟨(fun h => nomatch h), (fun h => nomatch h)⟩
  | .gap k r, n => by
    show _ ∈ .g k :: r.row ↔ _ ∈ .g k :: r.row
    rw [List.mem_cons, List.mem_cons, GW.pair r n]
    simp
  | .cons m i r, n => by
    show _ ∈ .e (true, m) :: (i.row ++ .e (false, m) :: r.row) ↔ _ ∈ .e (true, m) :: (i.row ++ .e (false, m) :: r.row)
    simp only [List.mem_cons, List.mem_append, GW.pair i n, GW.pair r n, RI.e.injEq, Prod.mk.injEq, true_and, Bool.true_eq_false, Bool.false_eq_true, false_and, false_or]
    constructor
    · rintro (h | h | h)
      · exact .inr (.inl h)
      · exact .inl h
      · exact .inr (.inr h)
    · rintro (h | h | h)
      · exact .inr (.inl h)
      · exact .inl h
      · exact .inr (.inr h)
theorem GW.split : ∀ {w : GW} {n : Str}, RI.e (true, n) ∈ w.row → ∃ (A : List RI) (i : GW) (B : List RI), w.row = A ++ .e (true, n) :: (i.row ++ .e (false, n) :: B)
  | .nil, n, h => nomatch h
  | .gap k r, n, h => by
    have h' : RI.e (true, n) ∈ RI.g k :: r.row := h
    rcases List.mem_cons.mp h' with e | e
    · cases e
    · obtain ⟨A, i, B, q⟩ := GW.split e
      exact ⟨.g k :: A, i, B, by show RI.g k :: r.row = _; rw [q]; rfl⟩
  | .cons m i r, n, h => by
    have h' : RI.e (true, n) ∈ .e (true, m) :: (i.row ++ .e (false, m) :: r.row) := h
    rcases List.mem_cons.mp h' with e | e
    · cases e
      exact ⟨[], i, r.row, rfl⟩
    · rcases List.mem_append.mp e with e | e
      · obtain ⟨A, j, B, q⟩ := GW.split e
        refine ⟨.e (true, m) :: A, j, B ++ .e (false, m) :: r.row, ?_⟩
        show .e (true, m) :: (i.row ++ .e (false, m) :: r.row) = _
        rw [q]
        simp
      · rcases List.mem_cons.mp e with e | e
        · cases e
        · obtain ⟨A, j, B, q⟩ := GW.split e
          refine ⟨.e (true, m) :: (i.row ++ .e (false, m) :: A), j, B, ?_⟩
          show .e (true, m) :: (i.row ++ .e (false, m) :: r.row) = _
          rw [q]
          simp
/-- how a row stands around a node -/
structure Sp (r : List RI) (n : Str) (A I B : List RI) : Prop where
  eq : r = A ++ .e (true, n) :: (I ++ .e (false, n) :: B)
  bal : Bal I
  out : ∀ b, RI.e (b, n) ∉ A ∧ RI.e (b, n) ∉ I ∧ RI.e (b, n) ∉ B
  i1 : ix (true, n) r = A.length
  i2 : ix (false, n) r = A.length + 1 + I.length
theorem nodup_parts {α : Type} {a b c d : List α} {x y : α} (h : (a ++ x :: (b ++ y :: c)).Nodup) : x ∉ a ∧ x ∉ b ∧ x ∉ c ∧ y ∉ a ∧ y ∉ b ∧ y ∉ c := by
  rw [List.nodup_append] at h
  obtain ⟨_, h2, h3⟩ := h
  rw [List.nodup_cons] at h2
  obtain ⟨h4, h5⟩ := h2
  rw [List.nodup_append] at h5
  obtain ⟨_, h6, h7⟩ := h5
  rw [List.nodup_cons] at h6
  refine ⟨fun z => h3 x z x List.mem_cons_self rfl, fun z => h4 (List.mem_append_left _ z), fun z => h4 (List.mem_append_right _ (List.mem_cons_of_mem _ z)), fun z => h3 y z y (List.mem_cons_of_mem _ (List.mem_append_right _ List.mem_cons_self)) rfl, fun z => h7 y z y List.mem_cons_self rfl, h6.1⟩
theorem Ok.sp {r : List RI} (o : Ok r) {n : Str} (h : RI.e (true, n) ∈ r) : ∃ A I B, Sp r n A I B := by
  obtain ⟨w, rfl⟩ := gw_of (o.bal [])
  obtain ⟨A, i, B, e⟩ := GW.split h
  have nd := o.nd
  rw [e, ends_app] at nd
  have nd' : (ends A ++ (true, n) :: (ends i.row ++ (false, n) :: ends B)).Nodup := by
    have : ends (.e (true, n) :: (i.row ++ .e (false, n) :: B)) = (true, n) :: (ends i.row ++ (false, n) :: ends B) := by
      show (true, n) :: ends (i.row ++ .e (false, n) :: B) = _
      rw [ends_app]
      rfl
    rw [this] at nd
    exact nd
  obtain ⟨p1, p2, p3, p4, p5, p6⟩ := nodup_parts (d := ([] : List Tok)) nd'
  rw [mem_ends] at p1 p2 p3 p4 p5 p6
  have out : ∀ b, RI.e (b, n) ∉ A ∧ RI.e (b, n) ∉ i.row ∧ RI.e (b, n) ∉ B := fun b => by cases b; exact ⟨p4, p5, p6⟩; exact ⟨p1, p2, p3⟩
  refine ⟨A, i.row, B, e, GW.bal i, out, by rw [e, ix_at p1], ?_⟩
  rw [e, show A ++ .e (true, n) :: (i.row ++ .e (false, n) :: B) = (A ++ .e (true, n) :: i.row) ++ .e (false, n) :: B by simp, ix_at ?_]
  · rw [List.length_append, List.length_cons]
    omega
  · rw [List.mem_append, List.mem_cons]
    rintro (h | h | h)
    · exact p4 h
    · cases h
    · exact p5 h
theorem Ok.pair {r : List RI} (o : Ok r) (n : Str) : RI.e (true, n) ∈ r ↔ RI.e (false, n) ∈ r := by
  obtain ⟨w, rfl⟩ := gw_of (o.bal [])
  exact GW.pair w n
/-- both ends of a name, in a balanced stretch or outside of it -/
theorem Bal.pair {r : List RI} (h : Bal r) (n : Str) : RI.e (true, n) ∈ r ↔ RI.e (false, n) ∈ r := by
  obtain ⟨w, rfl⟩ := gw_of (h [])
  exact GW.pair w n
/-- a balanced stretch taken out -/
theorem Bal.rest {a x b : List RI} (h : Bal (a ++ (x ++ b))) (hx : Bal x) : Bal (a ++ b) := fun S => by
  have e := h S
  rw [run_app] at e ⊢
  cases ea : run S a with
  | none => rw [ea] at e; cases e
  | some T =>
    rw [ea] at e
    have e' : run T (x ++ b) = some S := e
    rw [run_app, hx T] at e'
    exact e'
theorem Bal.ins {a b x : List RI} (h : Bal (a ++ b)) (hx : Bal x) : Bal (a ++ (x ++ b)) := fun S => by
  have e := h S
  rw [run_app] at e ⊢
  cases ea : run S a with
  | none => rw [ea] at e; cases e
  | some T =>
    rw [ea] at e
    have e' : run T b = some S := e
    show run T (x ++ b) = some S
    rw [run_app, hx T]
    exact e'
end Tw

namespace Tw
open PySem PySem.Spec PyProof.Rows L2
/-! ### deeds on rows -/
inductive Wk where
  | first | last | ahead | behind | front | back | swap | turn | lift | cut | pour | wrap | put
deriving DecidableEq
def Wk.str : Wk → Str
  | .first => "first" | .last => "last" | .ahead => "ahead" | .behind => "behind" | .front => "front" | .back => "back" | .swap => "swap" | .turn => "turn" | .lift => "lift" | .cut => "cut" | .pour => "pour" | .wrap => "wrap" | .put => "put"
def Wk.one : Wk → Bool
  | .front => true | .back => true | .lift => true | .cut => true | _ => false
structure Dd where
  k : Wk
  a : Str
  b : Str
def Dd.ns (d : Dd) : List Str := if d.k.one = true then [d.a] else [d.a, d.b]
def Dd.D (d : Dd) : Dt := .tuple (.str d.k.str :: d.ns.map .str)
def Dd.old (d : Dd) : List Str := match d.k with
  | .wrap => [d.a]
  | .put => [d.b]
  | _ => d.ns
def Dd.new (d : Dd) : List Str := match d.k with
  | .wrap => [d.b]
  | .put => [d.a]
  | _ => []
abbrev Th (r : List RI) (n : Str) : Prop := RI.e (true, n) ∈ r
def blk (r : List RI) (n : Str) : List RI := (r.drop (ix (true, n) r)).take (ix (false, n) r + 1 - ix (true, n) r)
def wout (r : List RI) (n : Str) : List RI := r.take (ix (true, n) r) ++ r.drop (ix (false, n) r + 1)
/-- a is b or is in it -/
abbrev Wi (r : List RI) (a b : Str) : Prop := RI.e (true, a) ∈ blk r b
def isIns (r : List RI) (d : Dd) : Bool := match d.k with
  | .first => decide (Wi r d.b d.a)
  | .last => decide (Wi r d.b d.a)
  | .ahead => decide (Wi r d.b d.a)
  | .behind => decide (Wi r d.b d.a)
  | .pour => decide (Wi r d.b d.a)
  | .swap => decide (Wi r d.a d.b) || decide (Wi r d.b d.a)
  | _ => false
def stopF (r : List RI) (d : Dd) : Option Str :=
  if ¬ (∀ n ∈ d.old, Th r n) then some "gone" else if ∃ n ∈ d.new, Th r n then some "taken" else if isIns r d = true then some "inside" else none
def at6 (rest : List RI) (k : Wk) (b : Str) : Nat := match k with
  | .front => 0
  | .back => rest.length
  | .first => ix (true, b) rest + 1
  | .last => ix (false, b) rest
  | .ahead => ix (true, b) rest
  | _ => ix (false, b) rest + 1
def insAt (r : List RI) (k : Nat) (x : List RI) : List RI := r.take k ++ (x ++ r.drop k)
def movedF (r : List RI) (k : Wk) (a b : Str) : List RI := insAt (wout r a) (at6 (wout r a) k b) (blk r a)
def swapF1 (r : List RI) (a b : Str) : List RI := r.take (ix (true, a) r) ++ (blk r b ++ ((r.drop (ix (false, a) r + 1)).take (ix (true, b) r - (ix (false, a) r + 1)) ++ (blk r a ++ r.drop (ix (false, b) r + 1))))
def swapF (r : List RI) (a b : Str) : List RI := if ix (true, b) r < ix (true, a) r then swapF1 r b a else swapF1 r a b
def ren (a b n : Str) : Str := if n = a then b else if n = b then a else n
def renI (a b : Str) : RI → RI
  | .e p => .e (p.1, ren a b p.2)
  | .g k => .g k
def inn (r : List RI) (n : Str) : List RI := (r.drop (ix (true, n) r + 1)).take (ix (false, n) r - (ix (true, n) r + 1))
def lessI (r : List RI) (n : Str) : List RI := r.take (ix (true, n) r + 1) ++ r.drop (ix (false, n) r)
def doneF (r : List RI) (d : Dd) : List RI := match d.k with
  | .swap => swapF r d.a d.b
  | .turn => r.map (renI d.a d.b)
  | .pour => insAt (lessI r d.a) (ix (false, d.b) (lessI r d.a)) (inn r d.a)
  | .put => insAt r (ix (false, d.b) r) [.e (true, d.a), .e (false, d.a)]
  | .cut => wout r d.a
  | .lift => r.take (ix (true, d.a) r) ++ (inn r d.a ++ r.drop (ix (false, d.a) r + 1))
  | .wrap => r.take (ix (true, d.a) r) ++ (.e (true, d.b) :: (blk r d.a ++ .e (false, d.b) :: r.drop (ix (false, d.a) r + 1)))
  | k => movedF r k d.a d.b
/-! what the parts are, around a node -/
section
variable {r A I B : List RI} {n : Str} (s : Sp r n A I B)
include s
theorem Sp.take : r.take (ix (true, n) r) = A := by
  rw [s.i1]
  conv => lhs; rw [s.eq]
  simp
theorem Sp.drop : r.drop (ix (false, n) r + 1) = B := by
  rw [s.i2]
  conv => lhs; rw [s.eq]
  rw [show A ++ .e (true, n) :: (I ++ .e (false, n) :: B) = (A ++ .e (true, n) :: (I ++ [.e (false, n)])) ++ B by simp]
  exact List.drop_left' (by simp; omega)
theorem Sp.blk : blk r n = .e (true, n) :: (I ++ [.e (false, n)]) := by
  unfold Tw.blk
  rw [s.i1, s.i2]
  conv => lhs; rw [s.eq]
  rw [List.drop_left' rfl, show .e (true, n) :: (I ++ .e (false, n) :: B) = (.e (true, n) :: (I ++ [.e (false, n)])) ++ B by simp]
  exact List.take_left' (by simp; omega)
theorem Sp.wout : wout r n = A ++ B := by
  unfold Tw.wout
  rw [s.take, s.drop]
theorem Sp.inn : inn r n = I := by
  unfold Tw.inn
  rw [s.i1, s.i2]
  conv => lhs; rw [s.eq]
  rw [show A ++ .e (true, n) :: (I ++ .e (false, n) :: B) = (A ++ [.e (true, n)]) ++ (I ++ .e (false, n) :: B) by simp, List.drop_left' (by simp)]
  exact List.take_left' (by omega)
theorem Sp.lessI : lessI r n = A ++ (.e (true, n) :: .e (false, n) :: B) := by
  unfold Tw.lessI
  rw [s.i1, s.i2]
  have e1 : r.take (A.length + 1) = A ++ [.e (true, n)] := by
    conv => lhs; rw [s.eq]
    rw [show A ++ .e (true, n) :: (I ++ .e (false, n) :: B) = (A ++ [.e (true, n)]) ++ (I ++ .e (false, n) :: B) by simp]
    exact List.take_left' (by simp)
  have e2 : r.drop (A.length + 1 + I.length) = .e (false, n) :: B := by
    conv => lhs; rw [s.eq]
    rw [show A ++ .e (true, n) :: (I ++ .e (false, n) :: B) = (A ++ .e (true, n) :: I) ++ (.e (false, n) :: B) by simp]
    exact List.drop_left' (by simp; omega)
  rw [e1, e2]
  simp
theorem Sp.bb : Bal (Tw.blk r n) := by
  rw [s.blk]
  exact Bal.block s.bal
theorem Sp.whole : A ++ (Tw.blk r n ++ B) = r := by
  rw [s.blk]
  conv => rhs; rw [s.eq]
  simp
end
theorem Sp.rest {r A I B : List RI} {n : Str} (s : Sp r n A I B) (o : Ok r) : Bal (Tw.wout r n) := by
  rw [s.wout]
  refine Bal.rest (x := Tw.blk r n) ?_ s.bb
  rw [s.whole]
  exact o.bal
end Tw

namespace Tw
open PySem PySem.Spec PyProof.Rows L2
/-! ### swap and turn -/
def GW.ren (a b : Str) : GW → GW
  | .nil => .nil
  | .cons n i r => .cons (Tw.ren a b n) (i.ren a b) (r.ren a b)
  | .gap k r => .gap k (r.ren a b)
/-! ### a deed that does not stop leads to a row -/
end Tw

namespace Tw
open PySem PySem.Spec PyProof.Rows L2
/-! ### expressions that change nothing, part by part -/
def Ev (m : ME) (env : Env) (x : Dt) : Prop := ∀ te, m env te = .ok (.d x) env
theorem Ev.v {env : Env} {i : Nat} {x : Dt} (h : env[i]? = some (some (.d x))) : Ev (mVar i) env x := fun te => by
  rw [ev_mVar, h]
  rfl
theorem Ev.c {env : Env} {x : Dt} : Ev (mC x) env x := fun _ => rfl
theorem Ev.addI {ma mb : ME} {env : Env} {i j : Int} (ha : Ev ma env (.int i)) (hb : Ev mb env (.int j)) : Ev (mOp addA ma mb) env (.int (i + j)) := fun te => by
  rw [ev_mOp, ha, zq00, ek_mOp_0, hb, zq00, ek_mOp_1]
  simp!
theorem Ev.addT {ma mb : ME} {env : Env} {xs ys : List Dt} (ha : Ev ma env (.tuple xs)) (hb : Ev mb env (.tuple ys)) (h : xs.length + ys.length ≤ 100000) : Ev (mOp addA ma mb) env (.tuple (xs ++ ys)) := fun te => by
  have h' : xs.length + ys.length ≤ sizeLine := big h
  rw [ev_mOp, ha, zq00, ek_mOp_0, hb, zq00, ek_mOp_1]
  simp! [h']
theorem Ev.subI {ma mb : ME} {env : Env} {i j : Int} (ha : Ev ma env (.int i)) (hb : Ev mb env (.int j)) : Ev (mOp (fl2 subD) ma mb) env (.int (i - j)) := fun te => by
  rw [ev_mOp, ha, zq00, ek_mOp_0, hb, zq00, ek_mOp_1]
  simp! [subD]
theorem Ev.eq {ma mb : ME} {env : Env} {x y : Dt} {b : Bool} {g : Dt → Dt → Option Dt} (ha : Ev ma env x) (hb : Ev mb env y) (h : g x y = some (.bool b)) : Ev (mOp (fl2 g) ma mb) env (.bool b) := fun te => by
  rw [ev_mOp, ha, zq00, ek_mOp_0, hb, zq00, ek_mOp_1]
  simp! [h]
theorem Ev.tst {m : ME} {env : Env} {b : Bool} (h : Ev m env (.bool b)) (te : List A) : mTst m env te = .ok b env := by
  rw [show mTst m env te = (m env te).bind tstA from rfl, h, zq00]
  rfl
theorem Ev.ix {ma mb : ME} {env : Env} {xs : List Dt} {i : Int} {x : Dt} (ha : Ev ma env (.tuple xs)) (hb : Ev mb env (.int i)) (h : atI xs i = some x) : Ev (mOp ixA ma mb) env x := fun te => by
  rw [ev_mOp, ha, zq00, ek_mOp_0, hb, zq00, ek_mOp_1]
  simp! [h]
theorem Ev.d {m : ME} {env : Env} {x : Dt} (h : Ev m env x) : Ev (mD m) env x := fun te => by
  rw [ev_mD, h]
  rfl
theorem cutD_map {α β : Type} (f : α → β) (xs : List α) (lo hi : Option Int) : cutD (xs.map f) lo hi = (cutD xs lo hi).map f := by
  unfold cutD
  rw [List.length_map, List.map_take, List.map_drop]
theorem Ev.sl {m ml mh : ME} {env : Env} {xs : List Dt} {i j : Int} (h : Ev m env (.tuple xs)) (hl : Ev ml env (.int i)) (hh : Ev mh env (.int j)) : Ev (mSl m (mPart ml) (mPart mh)) env (.tuple (cutD xs (some i) (some j))) := fun te => by
  rw [ev_mSl, h, zq00, ek_mSl_0, ev_mPart, hl]
  simp only [zq00, ek_mPart_0]
  show Rs.bind (.ok (some i) env) _ = _
  rw [zq00, ek_mSl_1, ev_mPart, hh]
  simp!
theorem Ev.slF {m ml : ME} {env : Env} {xs : List Dt} {i : Int} (h : Ev m env (.tuple xs)) (hl : Ev ml env (.int i)) : Ev (mSl m (mPart ml) mNoPart) env (.tuple (cutD xs (some i) none)) := fun te => by
  rw [ev_mSl, h, zq00, ek_mSl_0, ev_mPart, hl]
  simp!
theorem Ev.slT {m mh : ME} {env : Env} {xs : List Dt} {j : Int} (h : Ev m env (.tuple xs)) (hh : Ev mh env (.int j)) : Ev (mSl m mNoPart (mPart mh)) env (.tuple (cutD xs none (some j))) := fun te => by
  rw [ev_mSl, h, zq00, ek_mSl_0]
  simp only [ev_mNoPart, zq00, ek_mSl_1]
  rw [ev_mPart, hh]
  simp!
theorem Ev.sF {m ml : ME} {env : Env} {r : List RI} {i : Nat} (h : Ev m env (rowD r)) (hl : Ev ml env (.int i)) : Ev (mSl m (mPart ml) mNoPart) env (rowD (r.drop i)) := by
  have := Ev.slF h hl
  rw [cutD_map, cutD_from] at this
  exact this
theorem Ev.nil {env : Env} : ∀ te, mNil env te = .ok [] env := fun _ => rfl
def Evs (m : MA) (env : Env) (xs : List Dt) : Prop := ∀ te, m env te = .ok (xs.map .d) env
theorem Evs.nil {env : Env} : Evs mNil env [] := fun _ => rfl
theorem Evs.cons {m : ME} {ms : MA} {env : Env} {x : Dt} {xs : List Dt} (h : Ev m env x) (hs : Evs ms env xs) : Evs (mCons m ms) env (x :: xs) := fun te => by
  rw [ev_mCons, h, zq00, ek_mCons_0, hs, zq00]
  rfl
theorem dAll_d : ∀ xs : List Dt, dAll (xs.map .d) = some xs
  | [] => rfl
  | x :: xs => by
    show (dAll (xs.map .d)).map (x :: ·) = _
    rw [dAll_d xs]
    rfl
theorem Ev.tup {ms : MA} {env : Env} {xs : List Dt} (h : Evs ms env xs) (hl : xs.length ≤ 100000) : Ev (mTup ms) env (.tuple xs) := fun te => by
  have h' : xs.length ≤ sizeLine := big hl
  rw [ev_mTup, h, zq00]
  simp! [dAll_d, h']
theorem Ev.call {F : DF} {io : List Bool} {ms : MA} {env : Env} {xs : List Dt} {y : Dt} {ios : List A} (h : Evs ms env xs) (hio : io = xs.map fun _ => false) (hf : F (xs.map .d) = .ok (.d y) ios) : Ev (mCall (noXf F) io ms) env y := fun te => by
  have cv : ∀ xs : List Dt, cvAs (xs.map fun _ => false) (xs.map .d) env = some (xs.map fun x => ⟨.d x, none, none⟩) := by
    intro xs
    induction xs with
    | nil => rfl
    | cons x xs ih =>
      show (match cvA false env (.d x), cvAs (xs.map fun _ => false) (xs.map .d) env with | some g, some gs => some (g :: gs) | _, _ => none) = _
      rw [ih]
      rfl
  have io0 : ioS (xs.map fun x => (⟨.d x, none, none⟩ : Ag)) = [] := by
    unfold ioS
    rw [List.filterMap_map]
    exact List.filterMap_eq_nil_iff.mpr fun _ _ => rfl
  have br0 : brS (xs.map fun x => (⟨.d x, none, none⟩ : Ag)) = [] := by
    unfold brS
    rw [List.filterMap_map]
    exact List.filterMap_eq_nil_iff.mpr fun _ _ => rfl
  have ao : agOk env te (xs.map fun x => (⟨.d x, none, none⟩ : Ag)) = true := by
    unfold agOk
    rw [io0]
    rfl
  have am : (xs.map fun x => (⟨.d x, none, none⟩ : Ag)).map (·.a) = xs.map .d := by rw [List.map_map]; rfl
  have st : ∀ (zs : List Dt) (ios : List A), setIo env (zs.map fun x => (⟨.d x, none, none⟩ : Ag)) ios = env := by
    intro zs
    induction zs with
    | nil => intro ios; cases ios <;> rfl
    | cons z zs ih =>
      intro ios
      cases ios with
      | nil => rfl
      | cons i ios => exact ih ios
  rw [ev_mCall, h, zq00, hio]
  simp only [ek_mCall_0]
  rw [cv]
  show doCall (noXf F) env te _ = _
  unfold doCall
  rw [if_pos ao, am]
  unfold noXf
  rw [hf]
  show (if (brS _).isEmpty = true ∨ _ then Rs.ok (A.d y) (setIo env _ _) else .bad) = _
  rw [br0, if_pos (.inl rfl), st]
end Tw

namespace Tw
open PySem PySem.Spec PyProof.Rows L2
/-! ### the deeds' helpers -/
theorem gT2 {m : ME} {env e : Env} {te : List A} {i j : Nat} {x y : Dt} (h : m env te = .ok (.d (.tuple [x, y])) env) (h1 : gN i (.d x) env te = some e) {e' : Env} (h2 : gN j (.d y) e te = some e') : mAsg m (gT [i, j]) env te = .nx e' := by
  rw [ev_mAsg, h, zq01]
  show (match ((gN i (.d x) env te).bind fun e => (gN j (.d y) e te).bind fun e => gTs [] [] e te) with | some e' => Fl.nx e' | none => .bad) = _
  rw [h1]
  show (match (gN j (.d y) e te).bind (fun e => gTs [] [] e te) with | some e' => Fl.nx e' | none => .bad) = _
  rw [h2]
  rfl
theorem Wk.inj : ∀ k k' : Wk, decide (k.str = k'.str) = decide (k = k') := by
  intro k k'
  cases k <;> cases k' <;> decide +kernel
theorem Dd.at1 (d : Dd) : atI (.str d.k.str :: d.ns.map PyData.str) 1 = some (.str d.a) := by
  refine atI_nat (j := 1) ?_
  unfold Dd.ns
  split <;> rfl
theorem Dd.at2 (d : Dd) (h : d.k.one = false) : atI (.str d.k.str :: d.ns.map PyData.str) 2 = some (.str d.b) := by
  refine atI_nat (j := 2) ?_
  unfold Dd.ns
  rw [if_neg (by rw [h]; exact Bool.false_ne_true)]
  rfl
end Tw

namespace Tw
open PySem PySem.Spec PyProof.Rows L2
/-! ### names that hold data alone -/
def deB : Env → Bool
  | [] => true
  | none :: e => deB e
  | some (.d _) :: e => deB e
  | _ :: _ => false
theorem deB_rf : ∀ {env : Env}, deB env = true → ∀ i, inE (isRf i) env = false
  | [], _, i => rfl
  | none :: e, h, i => by rw [inE_cons, cB_none, deB_rf (env := e) h]; rfl
  | some (.d x) :: e, h, i => by rw [inE_cons, cB_some, deB_rf (env := e) h]; rfl
theorem deB_io : ∀ {env : Env}, deB env = true → ∀ i : Nat, nIo env[i]? = true
  | [], _, i => rfl
  | none :: e, h, 0 => rfl
  | some (.d x) :: e, h, 0 => rfl
  | none :: e, h, i + 1 => deB_io (env := e) h i
  | some (.d x) :: e, h, i + 1 => deB_io (env := e) h i
theorem gN_d {env : Env} {i : Nat} {x : Dt} (hd : deB env = true) (hi : i < env.length) : gN i (.d x) env [] = some (env.set i (some (.d x))) := by
  refine if_pos ?_
  rw [ev_setOk, deB_io hd]
  unfold anyC
  rw [deB_rf hd]
  simp [hi, isRf, isIo]
theorem Asg.d {m : ME} {env : Env} {i : Nat} {x : Dt} (h : Ev m env x) (hd : deB env = true) (hi : i < env.length) : mAsg m (gN i) env [] = .nx (env.set i (some (.d x))) := by
  rw [ev_mAsg, h, zq01]
  show (match gN i (.d x) env [] with | some e' => Fl.nx e' | none => .bad) = _
  rw [gN_d hd hi]
theorem deB_set : ∀ {env : Env}, deB env = true → ∀ (i : Nat) (x : Dt), deB (env.set i (some (.d x))) = true
  | [], _, _, _ => rfl
  | none :: e, h, 0, x => h
  | some (.d y) :: e, h, 0, x => h
  | none :: e, h, i + 1, x => deB_set (env := e) h i x
  | some (.d y) :: e, h, i + 1, x => deB_set (env := e) h i x
theorem Asg.t {m : ME} {env : Env} {i j : Nat} {x y : Dt} (h : Ev m env (.tuple [x, y])) (hd : deB env = true) (hi : i < env.length) (hj : j < env.length) : mAsg m (gT [i, j]) env [] = .nx ((env.set i (some (.d x))).set j (some (.d y))) :=
  gT2 (h []) (gN_d hd hi) (gN_d (deB_set hd i x) (by rw [List.length_set]; exact hj))
/-- a comprehension among data -/
theorem Ev.lc {mi : MI} {tt : MT} {el : ME} {j : Nat} {env : Env} {te : List A} {D : Dt} {xs : List Dt} (p : Dt → Bool) (f : Dt → Dt) (hm : mi env te = .ok ([.d D], fun _ => some xs) env) (hd : deB env = true) (hj : env[j]? = some none) (hl : xs.length ≤ 100000) (ht0 : te.any (isRf j) = false)
    (ht : ∀ x ∈ xs, ∀ te, tt (env.set j (some (.d x))) te = .ok (p x) (env.set j (some (.d x)))) (he : ∀ x ∈ xs, p x = true → Ev el (env.set j (some (.d x))) (f x)) : mLc .d mi (gN j) tt el [j] env te = .ok (.own (.l ((xs.filter p).map f))) env := by
  refine lc_gen (as := [.d D]) p f hm hj ?_ hl (fun x hx acc => ht x hx _) (fun x hx hp acc => he x hx hp _)
  unfold anyC
  rw [deB_rf hd, List.any_append, ht0]
  rfl
theorem seqI_ev {m : ME} {env : Env} {te : List A} {xs : List Dt} (h : Ev m env (.tuple xs)) : mSeqI m env te = .ok ([.d (.tuple xs)], fun _ => some xs) env := seqI_ok (h te) (.inr rfl)
theorem and_ev {ma mb : MT} {env : Env} {te : List A} {a b : Bool} (ha : ma env te = .ok a env) (hb : a = true → mb env te = .ok b env) : mAnd ma mb env te = .ok (a && b) env := by
  rw [ev_mAnd, ha, zq00]
  simp only [ek_mAnd_0]
  cases a with
  | true => simpa using hb rfl
  | false => rfl
theorem or_ev {ma mb : MT} {env : Env} {te : List A} {a b : Bool} (ha : ma env te = .ok a env) (hb : a = false → mb env te = .ok b env) : mOr ma mb env te = .ok (a || b) env := by
  rw [ev_mOr, ha, zq00]
  simp only [ek_mOr_0]
  cases a with
  | false => simpa using hb rfl
  | true => rfl
end Tw

namespace Tw
open PySem PySem.Spec PyProof.Rows L2
def Wk.mv : Wk → Bool
  | .first => true | .last => true | .ahead => true | .behind => true | .front => true | .back => true | _ => false
end Tw

namespace Tw
open PySem PySem.Spec PyProof.Rows L2
end Tw

namespace Tw
open PySem PySem.Spec PyProof.Rows L2
end Tw

namespace Tw
open PySem PySem.Spec PyProof.Rows L2
theorem gN_dt {env : Env} {i : Nat} {x : Dt} {te : List A} (hd : deB env = true) (hi : i < env.length) (ht : te.any (isRf i) = false) : gN i (.d x) env te = some (env.set i (some (.d x))) := by
  refine if_pos ?_
  rw [ev_setOk, deB_io hd]
  unfold anyC
  rw [deB_rf hd, List.any_cons, ht]
  simp [hi, isRf, isIo]
theorem Asg.dt {m : ME} {env : Env} {i : Nat} {x : Dt} {te : List A} (h : Ev m env x) (hd : deB env = true) (hi : i < env.length) (ht : te.any (isRf i) = false) : mAsg m (gN i) env te = .nx (env.set i (some (.d x))) := by
  rw [ev_mAsg, h, zq01]
  show (match gN i (.d x) env te with | some e' => Fl.nx e' | none => .bad) = _
  rw [gN_dt hd hi ht]
/-! ### a row of deeds -/
def doneAll (i : Nat) (r : List RI) : List Dd → (Nat × Str) ⊕ List RI
  | [] => .inr r
  | d :: ds => match stopF r d with
    | some z => .inl (i, z)
    | none => doneAll (i + 1) (doneF r d) ds
def resD : (Nat × Str) ⊕ List RI → Dt
  | .inl (i, z) => .tuple [.str "stops", .int (i : Nat), .str z]
  | .inr r => .tuple [.str "does", rowD r]
/-! ### rows of woods -/
def Wd.rows (w : Wd) : List RI := w.toks.map RI.e
theorem Wd.rowD (w : Wd) : Tw.rowD w.rows = .tuple w.tks := by
  show PyData.tuple ((w.toks.map RI.e).map RI.D) = _
  rw [List.map_map]
  rfl
theorem ends_map : ∀ l : List Tok, ends (l.map RI.e) = l
  | [] => rfl
  | p :: l => congrArg (p :: ·) (ends_map l)
def Wd.gw : Wd → GW
  | .nil => .nil
  | .cons n i r => .cons n i.gw r.gw
theorem Wd.gw_row : ∀ w : Wd, w.gw.row = w.rows
  | .nil => rfl
  | .cons n i r => by
    show RI.e (true, n) :: (i.gw.row ++ RI.e (false, n) :: r.gw.row) = ((true, n) :: (i.toks ++ (false, n) :: r.toks)).map RI.e
    rw [Wd.gw_row i, Wd.gw_row r, List.map_cons, List.map_append, List.map_cons]
    rfl
theorem Wd.ok {w : Wd} (nd : w.names.Nodup) : Ok w.rows := ⟨by rw [← Wd.gw_row]; exact GW.bal _, by show (ends (w.toks.map RI.e)).Nodup; rw [ends_map]; exact toks_nodup nd⟩
def GW.wd : GW → Wd
  | .nil => .nil
  | .cons n i r => .cons n i.wd r.wd
  | .gap _ r => r.wd
theorem Wd.th {w : Wd} {n : Str} : Th w.rows n ↔ n ∈ w.names := by
  show RI.e (true, n) ∈ w.toks.map RI.e ↔ _
  rw [List.mem_map, ← toks_names2 true]
  constructor
  · rintro ⟨p, hp, e⟩
    cases e
    exact hp
  · intro h
    exact ⟨_, h, rfl⟩
/-- names of deeds are names -/
def Dd.nm (d : Dd) : Prop := IsNm d.a ∧ IsNm d.b
end Tw

namespace Tw
open PySem PySem.Spec PyProof.Rows L2
/-! ### the law's own blocks -/
end Tw

namespace Tw
open PySem PySem.Spec PyProof.Rows L2
end Tw

namespace Tw
open PySem PySem.Spec PyProof.Rows L2
/-! ### names that hold data or things of their own -/
def owB : Env → Bool
  | [] => true
  | none :: e => owB e
  | some (.d _) :: e => owB e
  | some (.own _) :: e => owB e
  | _ :: _ => false
theorem owB_rf : ∀ {env : Env}, owB env = true → ∀ i, inE (isRf i) env = false
  | [], _, i => rfl
  | none :: e, h, i => by rw [inE_cons, cB_none, owB_rf (env := e) h]; rfl
  | some (.d x) :: e, h, i => by rw [inE_cons, cB_some, owB_rf (env := e) h]; rfl
  | some (.own x) :: e, h, i => by rw [inE_cons, cB_some, owB_rf (env := e) h]; rfl
theorem owB_io : ∀ {env : Env}, owB env = true → ∀ i : Nat, nIo env[i]? = true
  | [], _, i => rfl
  | none :: e, h, 0 => rfl
  | some (.d x) :: e, h, 0 => rfl
  | some (.own x) :: e, h, 0 => rfl
  | none :: e, h, i + 1 => owB_io (env := e) h i
  | some (.d x) :: e, h, i + 1 => owB_io (env := e) h i
  | some (.own x) :: e, h, i + 1 => owB_io (env := e) h i
theorem Asg.o {m : ME} {env : Env} {i : Nat} {x : Dt} {te : List A} (h : Ev m env x) (hd : owB env = true) (hi : i < env.length) (ht : te.any (isRf i) = false) : mAsg m (gN i) env te = .nx (env.set i (some (.d x))) := by
  rw [ev_mAsg, h, zq01]
  have g : gN i (.d x) env te = some (env.set i (some (.d x))) := by
    refine if_pos ?_
    rw [ev_setOk, owB_io hd]
    unfold anyC
    rw [owB_rf hd, List.any_cons, ht]
    simp [hi, isRf, isIo]
  show (match gN i (.d x) env te with | some e' => Fl.nx e' | none => .bad) = _
  rw [g]
/-! ### lift and pour as the law asks for them -/
end Tw

namespace Tw
open PySem PySem.Spec PyProof.Rows L2
theorem Ev.neg {m : ME} {env : Env} {i : Int} (h : Ev m env (.int i)) : Ev (mU (fl1 negD) m) env (.int (-i)) := fun te => by
  rw [ev_mU, h]
  simp! [negD]
end Tw

namespace Tw
open PySem PySem.Spec PyProof.Rows L2
theorem gtD_nat (i j : Nat) : gtD (.int i) (.int j) = some (.bool (decide (j < i))) := by simp [gtD]
end Tw

namespace Tw
open PySem PySem.Spec PyProof.Rows L2
/-! ### what raises -/
theorem call_data {F : DF} {io : List Bool} {ms : MA} {env : Env} {xs : List Dt} {te : List A} (h : Evs ms env xs) (hio : io = xs.map fun _ => false) : mCall F io ms env te = match F (xs.map .d) with
    | .ok r _ => .ok r env
    | .ex x _ => .ex x env
    | .bad => .bad := by
  have cv : ∀ xs : List Dt, cvAs (xs.map fun _ => false) (xs.map .d) env = some (xs.map fun x => ⟨.d x, none, none⟩) := by
    intro xs
    induction xs with
    | nil => rfl
    | cons x xs ih =>
      show (match cvA false env (.d x), cvAs (xs.map fun _ => false) (xs.map .d) env with | some g, some gs => some (g :: gs) | _, _ => none) = _
      rw [ih]
      rfl
  have io0 : ioS (xs.map fun x => (⟨.d x, none, none⟩ : Ag)) = [] := by
    unfold ioS
    rw [List.filterMap_map]
    exact List.filterMap_eq_nil_iff.mpr fun _ _ => rfl
  have br0 : brS (xs.map fun x => (⟨.d x, none, none⟩ : Ag)) = [] := by
    unfold brS
    rw [List.filterMap_map]
    exact List.filterMap_eq_nil_iff.mpr fun _ _ => rfl
  have ao : agOk env te (xs.map fun x => (⟨.d x, none, none⟩ : Ag)) = true := by
    unfold agOk
    rw [io0]
    rfl
  have am : (xs.map fun x => (⟨.d x, none, none⟩ : Ag)).map (·.a) = xs.map .d := by rw [List.map_map]; rfl
  have st : ∀ (zs : List Dt) (ios : List A), setIo env (zs.map fun x => (⟨.d x, none, none⟩ : Ag)) ios = env := by
    intro zs
    induction zs with
    | nil => intro ios; cases ios <;> rfl
    | cons z zs ih =>
      intro ios
      cases ios with
      | nil => rfl
      | cons i ios => exact ih ios
  rw [ev_mCall, h, zq00, hio]
  simp only [ek_mCall_0]
  rw [cv]
  show doCall F env te _ = _
  unfold doCall
  rw [if_pos ao, am]
  cases F (xs.map .d) with
  | bad => rfl
  | ok r ios =>
    show (if (brS _).isEmpty = true ∨ _ then Rs.ok r (setIo env _ _) else .bad) = _
    rw [br0, if_pos (.inl rfl), st]
  | ex x ios =>
    show (if (brS _).isEmpty = true ∨ _ then Rs.ex x (setIo env _ _) else .bad) = _
    rw [br0, if_pos (.inl rfl), st]
end Tw

namespace Tw
open PySem PySem.Spec PyProof.Rows L2
theorem lst_ev {ms : MA} {env : Env} {xs : List Dt} {te : List A} (h : Evs ms env xs) (hl : xs.length ≤ 100000) : mLst ms env te = .ok (.own (.l xs)) env := by
  show (ms env te).bind _ = _
  rw [h, zq00, dAll_d]
  exact if_pos (big hl)
theorem Ev.ifE {c : MT} {ma mb : ME} {env : Env} {b : Bool} {x : Dt} (hc : ∀ te, c env te = .ok b env) (h1 : b = true → Ev ma env x) (h2 : b = false → Ev mb env x) : Ev (mIfE c ma mb) env x := fun te => by
  show (c env te).bind _ = _
  rw [hc, zq00]
  cases b with
  | true => exact h1 rfl te
  | false => exact h2 rfl te
end Tw

namespace Tw
open PySem PySem.Spec PyProof.Rows L2
/-! ### names that hold plain things -/
def plB : Env → Bool
  | [] => true
  | none :: e => plB e
  | some (.d _) :: e => plB e
  | some (.own _) :: e => plB e
  | some (.sc _) :: e => plB e
  | _ :: _ => false
theorem plB_rf : ∀ {env : Env}, plB env = true → ∀ i, inE (isRf i) env = false
  | [], _, i => rfl
  | none :: e, h, i => by rw [inE_cons, cB_none, plB_rf (env := e) h]; rfl
  | some (.d x) :: e, h, i => by rw [inE_cons, cB_some, plB_rf (env := e) h]; rfl
  | some (.own x) :: e, h, i => by rw [inE_cons, cB_some, plB_rf (env := e) h]; rfl
  | some (.sc x) :: e, h, i => by rw [inE_cons, cB_some, plB_rf (env := e) h]; rfl
theorem plB_io : ∀ {env : Env}, plB env = true → ∀ i : Nat, nIo env[i]? = true
  | [], _, i => rfl
  | none :: e, h, 0 => rfl
  | some (.d x) :: e, h, 0 => rfl
  | some (.own x) :: e, h, 0 => rfl
  | some (.sc x) :: e, h, 0 => rfl
  | none :: e, h, i + 1 => plB_io (env := e) h i
  | some (.d x) :: e, h, i + 1 => plB_io (env := e) h i
  | some (.own x) :: e, h, i + 1 => plB_io (env := e) h i
  | some (.sc x) :: e, h, i + 1 => plB_io (env := e) h i
theorem plB_set : ∀ {env : Env}, plB env = true → ∀ (i : Nat) (a : A), (∃ x, a = .d x) ∨ (∃ o, a = .own o) → plB (env.set i (some a)) = true
  | [], _, _, _, _ => rfl
  | none :: e, h, 0, a, ha => by rcases ha with ⟨x, rfl⟩ | ⟨x, rfl⟩ <;> exact h
  | some (.d y) :: e, h, 0, a, ha => by rcases ha with ⟨x, rfl⟩ | ⟨x, rfl⟩ <;> exact h
  | some (.own y) :: e, h, 0, a, ha => by rcases ha with ⟨x, rfl⟩ | ⟨x, rfl⟩ <;> exact h
  | some (.sc y) :: e, h, 0, a, ha => by rcases ha with ⟨x, rfl⟩ | ⟨x, rfl⟩ <;> exact h
  | none :: e, h, i + 1, a, ha => plB_set (env := e) h i a ha
  | some (.d y) :: e, h, i + 1, a, ha => plB_set (env := e) h i a ha
  | some (.own y) :: e, h, i + 1, a, ha => plB_set (env := e) h i a ha
  | some (.sc y) :: e, h, i + 1, a, ha => plB_set (env := e) h i a ha
theorem gN_pl {env : Env} {i : Nat} {a : A} {te : List A} (hd : plB env = true) (hi : i < env.length) (ht : te.any (isRf i) = false) (ha : (∃ x, a = .d x) ∨ (∃ o, a = .own o)) : gN i a env te = some (env.set i (some a)) := by
  refine if_pos ?_
  rw [ev_setOk, plB_io hd]
  unfold anyC
  rw [plB_rf hd, List.any_cons, ht]
  rcases ha with ⟨x, rfl⟩ | ⟨x, rfl⟩ <;> simp [hi, isRf, isIo]
theorem Asg.pl {m : ME} {env : Env} {i : Nat} {a : A} {te : List A} (h : m env te = .ok a env) (hd : plB env = true) (hi : i < env.length) (ht : te.any (isRf i) = false) (ha : (∃ x, a = .d x) ∨ (∃ o, a = .own o)) : mAsg m (gN i) env te = .nx (env.set i (some a)) := by
  rw [ev_mAsg, h, zq01]
  show (match gN i a env te with | some e' => Fl.nx e' | none => .bad) = _
  rw [gN_pl hd hi ht ha]
theorem call_own {F : DF} {io : List Bool} {ms : MA} {env : Env} {xs : List Dt} {o : Ow} {ios : List A} {te : List A} (h : Evs ms env xs) (hio : io = xs.map fun _ => false) (hf : F (xs.map .d) = .ok (.own o) ios) : mCall (noXf F) io ms env te = .ok (.own o) env := by
  rw [call_data h hio]
  unfold noXf
  rw [hf]
  rfl
theorem seqI_lst {m : ME} {env : Env} {xs : List Dt} {te : List A} (h : Ev m env (.list xs)) : mSeqI m env te = .ok ([.d (.list xs)], fun _ => some xs) env := by
  show (m env te).bind _ = _
  rw [h, zq00]
  rfl
theorem Ev.dl {ms : MA} {env : Env} {xs : List Dt} (h : Evs ms env xs) (hl : xs.length ≤ 100000) : Ev (mD (mLst ms)) env (.list xs) := fun te => by
  show (mLst ms env te).bind _ = _
  rw [lst_ev h hl, zq00]
  rfl
end Tw

namespace Tw
open PySem PySem.Spec PyProof.Rows L2
/-! ### scripts that are drawn -/
/-! ### old and new names -/
def Dd.made (d : Dd) : Nat := match d.k with
  | .wrap => 2
  | .put => 1
  | _ => 0
end Tw

namespace Tw
open PySem PySem.Spec PyProof.Rows L2
end Tw

namespace Tw
open PySem PySem.Spec PyProof.Rows L2
/-! ### repr of woods -/
end Tw

namespace Tw
open PySem PySem.Spec PyProof.Rows L2
/-! ### scripts tried, whole and deed by deed -/
end Tw

namespace Tw
open PySem PySem.Spec PyProof.Rows L2
/-! ### scripts cut in two -/
end Tw

namespace Tw
open PySem PySem.Spec PyProof.Rows L2
/-! ### other names -/
def rnI (f : Str → Str) : RI → RI
  | .e p => .e (p.1, f p.2)
  | .g k => .g k
def rnR (f : Str → Str) (r : List RI) : List RI := r.map (rnI f)
def Dd.rn (f : Str → Str) (d : Dd) : Dd := ⟨d.k, f d.a, f d.b⟩
end Tw

namespace Tw
open PySem PySem.Spec PyProof.Rows L2
def Wd.rn (f : Str → Str) : Wd → Wd
  | .nil => .nil
  | .cons n i r => .cons (f n) (i.rn f) (r.rn f)
def rnT (f : Str → Str) (p : Tok) : Tok := (p.1, f p.2)
/-! ### a one to one exchange of all texts -/
/-! ### gaps and children -/
theorem Ev.dg {env : Env} {i : Nat} {mb : ME} {kvs : List (Dt × Dt)} {z : Str} {x : Dt} (hd : env[i]? = some (some (.d (.dict kvs)))) (hk : Ev mb env (.str z)) (h : lkDD kvs (.inr z) = some x) : Ev (mOp dgA (mVar i) mb) env x := fun te => by
  show Rs.bind (mVar i env te) _ = _
  rw [Ev.v hd, zq00]
  show Rs.bind (mb env _) _ = _
  rw [hk, zq00]
  show (match dgO env (.d (.dict kvs)) (.inr z) with | some (.dt x) => Rs.ok (A.d x) env | some .li => (match A.d (.dict kvs) with | .rf i none => .ok (.rf i (some (.inr z))) env | _ => .bad) | _ => .bad) = _
  have e : dgO env (.d (.dict kvs)) (.inr z) = some (match lkDD kvs (.inr z) with | some x => .dt x | none => .no) := rfl
  rw [e, h]
theorem Ev.dgO {env : Env} {i : Nat} {mb : ME} {kvs : List (Key × Dt)} {z : Str} {x : Dt} (hd : env[i]? = some (some (.own (.dc kvs)))) (hk : Ev mb env (.str z)) (h : lkD kvs (.inr z) = some x) : Ev (mOp dgA (mVar i) mb) env x := fun te => by
  have hv : mVar i env te = .ok (.rf i none) env := by unfold mVar; rw [hd]; rfl
  show Rs.bind (mVar i env te) _ = _
  rw [hv, zq00]
  show Rs.bind (mb env _) _ = _
  rw [hk, zq00]
  have eo : owAt env i = some (.dc kvs) := by unfold owAt; rw [hd]
  show (match Tw.dgO env (.rf i none) (.inr z) with | some (.dt x) => Rs.ok (A.d x) env | some .li => .ok (.rf i (some (.inr z))) env | _ => .bad) = _
  have e : Tw.dgO env (.rf i none) (.inr z) = some (match lkD kvs (.inr z) with | some x => .dt x | none => .no) := by
    unfold Tw.dgO
    simp only [eo]
    all_goals (cases lkD kvs (.inr z) <;> rfl)
  rw [e, h]
end Tw

namespace Tw
open PySem PySem.Spec PyProof.Rows L2
/-! ### which names are old and which are new -/
end Tw

namespace Tw
open PySem PySem.Spec PyProof.Rows L2
/-! under other names -/
end Tw

namespace Tw
open PySem PySem.Spec PyProof.Rows L2
end Tw

namespace Tw
open PySem PySem.Spec PyProof.Rows L2
end Tw

namespace Tw
open PySem PySem.Spec PyProof.Rows L2
end Tw

namespace Tw
open PySem PySem.Spec PyProof.Rows L2
/-- the sign of an end -/
theorem Ev.sign {env : Env} {j : Nat} {p : Tok} (h : env[j]? = some (some (.d (tkD p)))) : Ev (mOp ixA (mVar j) (mC (.int 0))) env (.str (if p.1 = true then "+" else "-")) := fun te => by
  have a0 := tk_at0 p
  have e : (⟨#[if p.1 = true then 43 else 45]⟩ : Str) = (if p.1 = true then ("+" : Str) else ("-" : Str)) := by cases p.1 <;> rfl
  rw [← e]
  simp! only [h, a0]
end Tw

namespace Tw
open PySem PySem.Spec PyProof.Rows L2
end Tw

namespace Tw
open PySem PySem.Spec PyProof.Rows L2
/-! ### deeds taken back -/
end Tw

namespace Tw
open PySem PySem.Spec PyProof.Rows L2
end Tw

namespace Tw
open PySem PySem.Spec PyProof.Rows L2
/-! ### a wood as a dict of lists of names -/
end Tw

namespace Tw
open PySem PySem.Spec PyProof.Rows L2
/-! ### where a node stands -/
/-- what stands right ahead of a node -/
def lastT (o : Str) (L : List Str) : RI := match L.getLast? with
  | some s => .e (false, s)
  | none => .e (true, o)
end Tw

namespace Tw
open PySem PySem.Spec PyProof.Rows L2
end Tw

namespace Tw
open PySem PySem.Spec PyProof.Rows L2
def kp (k : Str) : Dt := if k = "" then .none else .str k
end Tw

namespace Tw
open PySem PySem.Spec PyProof.Rows L2
end Tw

namespace Tw
open PySem PySem.Spec PyProof.Rows L2
/-! ### names that laws about scripts draw -/
end Tw

namespace Tw
open PySem PySem.Spec PyProof.Rows L2
end Tw

namespace Tw
open PySem PySem.Spec PyProof.Rows L2
/-! ### what lies around a node -/
end Tw

namespace Tw
open PySem PySem.Spec PyProof.Rows L2
theorem Wd.bal (w : Wd) : Bal w.rows := by rw [← Wd.gw_row]; exact GW.bal _
end Tw

namespace Tw
open PySem PySem.Spec PyProof.Rows L2
/-! ### where a node stands, with what is in it and what is behind it -/
def Wd.pos (o : Str) (L : List Str) : Wd → Str → Option (Str × List Str × Wd × Wd)
  | .nil, _ => none
  | .cons n i r, a => if n = a then some (o, L, i, r) else match i.pos n [] a with
    | some x => some x
    | none => r.pos o (L ++ [n]) a
/-- all of it together, for a wood with unlike names -/
structure Pos (w : Wd) (a o : Str) (L : List Str) (i r : Wd) (A : List RI) (B : List RI) : Prop where
  eq : w.rows = A ++ .e (true, a) :: (i.rows ++ .e (false, a) :: (r.rows ++ B))
  out : ∀ b, RI.e (b, a) ∉ A ∧ RI.e (b, a) ∉ i.rows ∧ RI.e (b, a) ∉ r.rows ++ B
  hd : (A = [] ∧ o = "" ∧ L = []) ∨ ∃ A', A = A' ++ [lastT o L]
  tl : (o = "" ∧ B = []) ∨ ∃ B', B = .e (false, o) :: B'
  run : ∃ S, Tw.run [] A = some S ∧ ((o = "" ∧ S = []) ∨ ∃ S2, S = o :: S2)
end Tw

namespace Tw
open PySem PySem.Spec PyProof.Rows L2
/-! ### sayings -/
theorem Ev.len {m : ME} {env : Env} {xs : List Dt} (h : Ev m env (.tuple xs)) : Ev (mCB (one lenA) (mCons m mNil)) env (.int (xs.length : Nat)) := fun te => by
  show Rs.bind (mCons m mNil env te) _ = _
  have e : mCons m mNil env te = .ok [.d (.tuple xs)] env := by
    rw [ev_mCons, h, zq00, ek_mCons_0]
    rfl
  rw [e, zq00]
  rfl
end Tw

namespace Tw
open PySem PySem.Spec PyProof.Rows L2
theorem eq_lists (X : List Dt) (Y : List Dt) (h1 : PyData.plainAll X = true) (h2 : PyData.plainAll Y = true) (hd : PyData.depthAll X ≤ 100) : eqD (.list X) (.list Y) = some (.bool (PyData.eqvAll X Y)) := by
  have d1 : (PyData.list X).depth ≤ 190 := by
    have e : (PyData.list X).depth = PyData.depthAll X + 1 := by rw [PyData.depth]
    omega
  unfold eqD okEq
  rw [show (PyData.list X).plain = true from h1, show (PyData.list Y).plain = true from h2, Bool.true_and, Bool.true_and, decide_eq_true (show min (PyData.list X).depth (PyData.list Y).depth ≤ 190 by omega), Bool.true_or, if_pos rfl, PyData.eqv]
theorem strs_eqv : ∀ a b : List Str, PyData.eqvAll (a.map .str) (b.map .str) = decide (a = b)
  | [], [] => rfl
  | [], _ :: _ => rfl
  | _ :: _, [] => rfl
  | x :: a, y :: b => by
    show (PyData.eqv (.str x) (.str y) && PyData.eqvAll (a.map .str) (b.map .str)) = _
    rw [strs_eqv a b, eqv_str, Bool.eq_iff_iff]
    simp
theorem strs_eqD (a b : List Str) : eqD (.list (a.map .str)) (.list (b.map .str)) = some (.bool (decide (a = b))) := by
  have pl : ∀ l : List Str, PyData.plainAll (l.map .str) = true := fun l => plainAll_of fun x hx => by
    obtain ⟨z, _, rfl⟩ := List.mem_map.mp hx; rfl
  have dp : PyData.depthAll (a.map .str) ≤ 100 := depthAll_of fun x hx => by
    obtain ⟨z, _, rfl⟩ := List.mem_map.mp hx; simp [PyData.depth]
  rw [eq_lists _ _ (pl a) (pl b) dp, strs_eqv]
end Tw

namespace Tw
open PySem PySem.Spec PyProof.Rows L2
/-! ### a wood of a tuple of names -/
def oo : Option (List Dt) → Option A
  | none => none
  | some l => some (.own (.l l))
theorem pl_od' (x : Option Dt) (e : Env) : plB (od x :: e) = plB e := by cases x <;> rfl
theorem pl_oo (x : Option (List Dt)) (e : Env) : plB (oo x :: e) = plB e := by cases x <;> rfl
theorem Asg.pl2 {m : ME} {env e : Env} {i : Nat} {a : A} {te : List A} (h : m env te = .ok a e) (hd : plB e = true) (hi : i < e.length) (ht : te.any (isRf i) = false) (ha : (∃ x, a = .d x) ∨ (∃ o, a = .own o)) : mAsg m (gN i) env te = .nx (e.set i (some a)) := by
  have g := gN_pl (te := te) hd hi ht ha
  rw [ev_mAsg, h, zq01]
  show (match gN i a e te with | some e' => Fl.nx e' | none => .bad) = _
  rw [g]
end Tw

namespace Tw
open PySem PySem.Spec PyProof.Rows L2
/-! ### blocks that may raise -/
/-! ### sets of texts -/
/-! ### rows looked at from the left -/
def cutN (z : Str) : Str := cutS z (some 1) none
theorem tl_cutN (z : Str) : TL.tl (cutN z) = (TL.tl z).drop 1 := tl_cut_from z 1
theorem cutN_len (z : Str) : (cutN z).length ≤ z.length := by
  rw [TL.len_tl, TL.len_tl, tl_cutN, List.length_drop]
  omega
end Tw

namespace Tw
open PySem PySem.Spec PyProof.Rows L2
theorem Ev.cutV {env : Env} {j : Nat} {z : Str} (h : env[j]? = some (some (.d (.str z)))) (hl : z.length ≤ 1000) : Ev (mSl (mVar j) (mPart (mC (.int 1))) mNoPart) env (.str (cutN z)) := fun te => by
  have hz : (cutS z (some 1) none).length ≤ sizeLine := big (by have := cutN_len z; unfold cutN at this; omega)
  simp! [h, hz, cutN]
end Tw

namespace Tw
open PySem PySem.Spec PyProof.Rows L2
theorem neD_strs (a b : List Str) : neD (.list (a.map .str)) (.list (b.map .str)) = some (.bool (!decide (a = b))) := by
  have h := strs_eqD a b
  unfold eqD at h
  unfold neD
  split at h
  · rename_i c
    rw [if_pos c]
    have h : PyData.eqv (.list (a.map .str)) (.list (b.map .str)) = decide (a = b) := by injection h with h; injection h
    rw [h]
  · cases h
end Tw

namespace Tw
open PySem PySem.Spec PyProof.Rows L2
theorem Ev.f2 {ma mb : ME} {env : Env} {x y z : Dt} {g : Dt → Dt → Option Dt} (ha : Ev ma env x) (hb : Ev mb env y) (h : g x y = some z) : Ev (mOp (fl2 g) ma mb) env z := fun te => by
  rw [ev_mOp, ha, zq00, ek_mOp_0, hb, zq00, ek_mOp_1]
  simp! [h]
theorem Ev.lst {ms : MA} {env : Env} {xs : List Dt} (h : Evs ms env xs) (hl : xs.length ≤ 100000) : Ev (mD (mLst ms)) env (.list xs) := Ev.dl h hl
end Tw

namespace Tw
open PySem PySem.Spec PyProof.Rows L2
theorem Ev.min2 {ma mb : ME} {env : Env} {i j : Nat} (ha : Ev ma env (.int (i : Nat))) (hb : Ev mb env (.int (j : Nat))) : Ev (mCB min2A (mCons ma (mCons mb mNil))) env (.int ((min i j : Nat) : Int)) := fun te => by
  show Rs.bind (mCons ma (mCons mb mNil) env te) _ = _
  rw [(Evs.cons ha (Evs.cons hb Evs.nil)) te, zq00]
  have e : ((min i j : Nat) : Int) = if (j : Int) < (i : Int) then (j : Int) else (i : Int) := by split <;> omega
  rw [e]
  simp!
end Tw

namespace Tw
open PySem PySem.Spec PyProof.Rows L2
/-! ### calls that draw -/
theorem plB_nest : ∀ {env : Env}, plB env = true → ∀ i, inE (isNest i) env = false
  | [], _, i => rfl
  | none :: e, h, i => plB_nest (env := e) h i
  | some (.d _) :: e, h, i => plB_nest (env := e) h i
  | some (.own _) :: e, h, i => plB_nest (env := e) h i
  | some (.sc _) :: e, h, i => plB_nest (env := e) h i
theorem call_dk {F : DF} {ms : MA} {env : Env} {te : List A} {i : Nat} {g m c g' c' : Int} {xs : List Dt} {r : A} (hi : env[i]? = some (some (.own (Dkv g m c)))) (h : Evs ms env xs) (hp : plB env = true) (ht : te.any (isNest i) = false)
    (hF : F (.io (Dkv g m c) :: xs.map .d) = .ok r (.io (Dkv g' m c') :: xs.map .d)) : mCall (noXf F) (true :: xs.map fun _ => false) (mCons (mVar i) ms) env te = .ok r (env.set i (some (.own (Dkv g' m c')))) := by
  have cv : ∀ xs : List Dt, cvAs (xs.map fun _ => false) (xs.map .d) env = some (xs.map fun x => ⟨.d x, none, none⟩) := by
    intro xs
    induction xs with
    | nil => rfl
    | cons x xs ih =>
      show (match cvA false env (.d x), cvAs (xs.map fun _ => false) (xs.map .d) env with | some g, some gs => some (g :: gs) | _, _ => none) = _
      rw [ih]
      rfl
  have io0 : ioS (xs.map fun x => (⟨.d x, none, none⟩ : Ag)) = [] := by
    unfold ioS
    rw [List.filterMap_map]
    exact List.filterMap_eq_nil_iff.mpr fun _ _ => rfl
  have br0 : brS (xs.map fun x => (⟨.d x, none, none⟩ : Ag)) = [] := by
    unfold brS
    rw [List.filterMap_map]
    exact List.filterMap_eq_nil_iff.mpr fun _ _ => rfl
  have am : (xs.map fun x => (⟨.d x, none, none⟩ : Ag)).map (·.a) = xs.map .d := by rw [List.map_map]; rfl
  have st : ∀ (zs : List Dt) (e : Env) (ios : List A), setIo e (zs.map fun x => (⟨.d x, none, none⟩ : Ag)) ios = e := by
    intro zs
    induction zs with
    | nil => intro e ios; cases ios <;> rfl
    | cons z zs ih =>
      intro e ios
      cases ios with
      | nil => rfl
      | cons i ios => exact ih e ios
  have v : ∀ te, mVar i env te = .ok (.rf i none) env := fun te => by
    unfold mVar
    rw [hi]
    rfl
  have ow : owAt env i = some (Dkv g m c) := by
    unfold owAt
    rw [hi]
  have c1 : cvAs (true :: xs.map fun _ => false) (.rf i none :: xs.map .d) env = some (⟨.io (Dkv g m c), some i, none⟩ :: xs.map fun x => ⟨.d x, none, none⟩) := by
    show (match cvA true env (.rf i none), cvAs (xs.map fun _ => false) (xs.map .d) env with | some g, some gs => some (g :: gs) | _, _ => none) = _
    rw [cv]
    have e : cvA true env (.rf i none) = some ⟨.io (Dkv g m c), some i, none⟩ := by
      show (match owAt env i with | some o => some (⟨.io o, some i, none⟩ : Ag) | none => none) = _
      rw [ow]
    rw [e]
  have ao : agOk env te (⟨.io (Dkv g m c), some i, none⟩ :: xs.map fun x => ⟨.d x, none, none⟩) = true := by
    unfold agOk
    have e1 : ioS (⟨.io (Dkv g m c), some i, none⟩ :: xs.map fun x => (⟨.d x, none, none⟩ : Ag)) = [i] := by
      show i :: ioS (xs.map fun x => (⟨.d x, none, none⟩ : Ag)) = _
      rw [io0]
    have e2 : brS (⟨.io (Dkv g m c), some i, none⟩ :: xs.map fun x => (⟨.d x, none, none⟩ : Ag)) = [] := br0
    rw [e1, e2]
    have e3 : anyC (isNest i) env te = false := by
      unfold anyC
      rw [plB_nest hp, ht]
      rfl
    simp [e3]
  rw [ev_mCall]
  show Rs.bind (mCons (mVar i) ms env te) _ = _
  have e : mCons (mVar i) ms env te = .ok (.rf i none :: xs.map .d) env := by
    rw [ev_mCons, v, zq00, ek_mCons_0, h, zq00]
    rfl
  rw [e, zq00]
  simp only [ek_mCall_0]
  rw [c1]
  show doCall (noXf F) env te _ = _
  unfold doCall
  rw [if_pos ao]
  show (match noXf F (.io (Dkv g m c) :: (xs.map fun x => (⟨.d x, none, none⟩ : Ag)).map (·.a)) with
    | .ok r ios => if (brS (⟨.io (Dkv g m c), some i, none⟩ :: xs.map fun x => (⟨.d x, none, none⟩ : Ag))).isEmpty = true ∨ (r.tup = true ∧ ios.all A.ioTup = true) then Rs.ok r (setIo env (⟨.io (Dkv g m c), some i, none⟩ :: xs.map fun x => (⟨.d x, none, none⟩ : Ag)) ios) else .bad
    | .ex x ios => if (brS (⟨.io (Dkv g m c), some i, none⟩ :: xs.map fun x => (⟨.d x, none, none⟩ : Ag))).isEmpty = true ∨ (x.fs.all (fun q => tupD q.2) = true ∧ ios.all A.ioTup = true) then .ex x (setIo env (⟨.io (Dkv g m c), some i, none⟩ :: xs.map fun x => (⟨.d x, none, none⟩ : Ag)) ios) else .bad
    | .bad => .bad) = _
  rw [am]
  have eF : noXf F (.io (Dkv g m c) :: xs.map .d) = .ok r (.io (Dkv g' m c') :: xs.map .d) := by
    unfold noXf
    rw [hF]
    rfl
  rw [eF]
  have br1 : brS (⟨.io (Dkv g m c), some i, none⟩ :: xs.map fun x => (⟨.d x, none, none⟩ : Ag)) = [] := br0
  show (if (brS (⟨.io (Dkv g m c), some i, none⟩ :: xs.map fun x => (⟨.d x, none, none⟩ : Ag))).isEmpty = true ∨ _ then Rs.ok r (setIo env (⟨.io (Dkv g m c), some i, none⟩ :: xs.map fun x => (⟨.d x, none, none⟩ : Ag)) (.io (Dkv g' m c') :: xs.map .d)) else .bad) = _
  rw [br1, if_pos (.inl rfl)]
  show Rs.ok r (setIo (setOw env i (.io (Dkv g' m c'))) (xs.map fun x => (⟨.d x, none, none⟩ : Ag)) (xs.map .d)) = _
  rw [st]
  unfold setOw
  rw [hi]
theorem asg_at {M : ME} {env e e' : Env} {x : A} {i : Nat} {te : List A} (h : M env te = .ok x e) (hg : gN i x e te = some e') : mAsg M (gN i) env te = .nx e' := by
  rw [ev_mAsg, h, zq01]
  show (match gN i x e te with | some e => Fl.nx e | none => .bad) = _
  rw [hg]
end Tw

namespace Tw
open PySem PySem.Spec PyProof.Rows L2
/-! ### wishes -/
/-! ### the form of a wish -/
end Tw

namespace Tw
open PySem PySem.Spec PyProof.Rows L2
/-! ### a wish within the limits has no fault -/
end Tw

namespace Tw
open PySem PySem.Spec PyProof.Rows L2
theorem Ev.chain {ma mb mc : ME} {env : Env} {x y z : Nat} (ha : Ev ma env (.int (x : Nat))) (hb : Ev mb env (.int (y : Nat))) (hc : Ev mc env (.int (z : Nat))) : Ev (mChain ltD ltD ma mb mc) env (.bool (decide (x < y ∧ y < z))) := fun te => chain_lt ha hb hc
end Tw

namespace Tw
open PySem PySem.Spec PyProof.Rows L2
end Tw

namespace Tw
open PySem PySem.Spec PyProof.Rows L2
/-! ### gaps filled -/
end Tw

namespace Tw
open PySem PySem.Spec PyProof.Rows L2
end Tw

namespace Tw
open PySem PySem.Spec PyProof.Rows L2
end Tw

namespace Tw
open PySem PySem.Spec PyProof.Rows L2
theorem op_chg {f : Env → A → A → Rs A} {M1 M2 : ME} {env e1 : Env} {x y z : Dt} {te : List A} (h1 : Ev M1 env x) (h2 : M2 env (.d x :: te) = .ok (.d y) e1) (h3 : Ev (mOp f (mC x) (mC y)) e1 z) : mOp f M1 M2 env te = .ok (.d z) e1 := by
  have e := h3 te
  rw [ev_mOp, Ev.c (x := x), zq00, ek_mOp_0, Ev.c (x := y), zq00, ek_mOp_1] at e
  rw [ev_mOp, h1, zq00, ek_mOp_0, h2, zq00, ek_mOp_1]
  exact e
end Tw

namespace Tw
open PySem PySem.Spec PyProof.Rows L2
end Tw

namespace Tw
open PySem PySem.Spec PyProof.Rows L2
/-! ### the gaps of a row that is filled -/
/-! ### how great the gaps of a wood are -/
end Tw

namespace Tw
open PySem PySem.Spec PyProof.Rows L2
/-! ### chains -/
end Tw

namespace Tw
open PySem PySem.Spec PyProof.Rows L2
/-! ### gaps put back -/
end Tw

namespace Tw
open PySem PySem.Spec PyProof.Rows L2
end Tw

namespace Tw
open PySem PySem.Spec PyProof.Rows L2
end Tw

namespace Tw
open PySem PySem.Spec PyProof.Rows L2
theorem Ev.mulI {ma mb : ME} {env : Env} {i j : Int} (ha : Ev ma env (.int i)) (hb : Ev mb env (.int j)) (h : CMul i j) : Ev (mOp mulA ma mb) env (.int (i * j)) := fun te => by
  rw [ev_mOp, ha, zq00, ek_mOp_0, hb, zq00, ek_mOp_1]
  simp! [h]
end Tw

namespace Tw
open PySem PySem.Spec PyProof.Rows L2
/-! ### all rows over some names -/
/-! ### each completion is a wood's row -/
end Tw

namespace Tw
open PySem PySem.Spec PyProof.Rows L2
def rowT (r : List Tok) : Dt := .tuple (r.map tkD)
/-! ### the program's rows -/
end Tw

namespace Tw
open PySem PySem.Spec PyProof.Rows L2
end Tw

namespace Tw
open PySem PySem.Spec PyProof.Rows L2
/-! ### the names of a wish -/
end Tw

namespace Tw
open PySem PySem.Spec PyProof.Rows L2
/-! ### a deed of the script has no fault -/
end Tw

namespace Tw
open PySem PySem.Spec PyProof.Rows L2
/-! ### a script of named deeds has no fault -/
end Tw

namespace Tw
open PySem PySem.Spec PyProof.Rows L2
/-! ### all_rows gets a list that rows_for made -/
/-! ### deeds that keep all nodes -/
def Wk.keep : Wk → Bool
  | .lift => false | .cut => false | .wrap => false | .put => false | _ => true
/-! ### all rows of the called names -/
end Tw

namespace Tw
open PySem PySem.Spec PyProof.Rows L2
/-! ### such deeds keep the names -/
/-! ### wishes by the row alone -/
end Tw

namespace Tw
open PySem PySem.Spec PyProof.Rows L2
/-! ### where -/
/-! ### what the law asks of one script -/
/-! ### logic of sureness -/
end Tw

namespace Tw
open PySem PySem.Spec PyProof.Rows L2
/-! ### the law's questions about one script -/
/-! ### a script that keeps all nodes is drawn -/
end Tw

namespace Tw
open PySem PySem.Spec PyProof.Rows L2
/-! ### wishes and what is none, by the data alone -/
mutual
def nd : Dt → Nat
  | .tuple xs => ndL xs + 1
  | _ => 1
def ndL : List Dt → Nat
  | [] => 0
  | x :: xs => nd x + ndL xs
end
abbrev Pd := List Nat × Dt
def ndS (l : List Pd) : Nat := (l.map fun q => nd q.2).sum
/-! ### small results -/
/-! ### what has no fault is a wish -/
theorem two {α : Type} {r : List α} (h : r.length = 2) : ∃ a b, r = [a, b] := by
  cases r with
  | nil => cases h
  | cons a r => cases r with
    | nil => cases h
    | cons b r => cases r with
      | nil => exact ⟨a, b, rfl⟩
      | cons c r => simp at h
/-! ### the answer -/
end Tw

namespace Tw
open PySem PySem.Spec PyProof.Rows L2
/-! ### the program's judge of wishes, at any data -/
end Tw

namespace Tw
open PySem PySem.Spec PyProof.Rows L2
/-! ### strip(letters) of a text -/
end Tw

namespace Tw
open PySem PySem.Spec PyProof.Rows L2
/-! ### the law's judge of wishes, at any data -/
end Tw

namespace Tw
open PySem PySem.Spec PyProof.Rows L2
end Tw

namespace Tw
open PySem PySem.Spec PyProof.Rows L2
/-! ### is_so refuses what is no wish -/
/-! ### the answers can be shown -/
end Tw

namespace Tw
open PySem PySem.Spec PyProof.Rows L2
/-! ### wishes that grow -/
theorem tst_at {M : ME} {env e : Env} {te : List A} {b : Bool} (h : M env te = .ok (.d (.bool b)) e) : mTst M env te = .ok b e := by
  show (M env te).bind tstA = _
  rw [h, zq00]
  rfl
end Tw

namespace Tw
open PySem PySem.Spec PyProof.Rows L2
/-! ### wishes with something changed -/
end Tw

namespace Tw
open PySem PySem.Spec PyProof.Rows L2
/-! ### what can be shown though empty dicts lie in it -/
/-! ### of what may come of a wish -/
end Tw

namespace Tw
open PySem PySem.Spec PyProof.Rows L2
/-! ### how many rows there are -/
end Tw

namespace Tw
open PySem PySem.Spec PyProof.Rows L2
/-! ### rows in order -/
/-! ### rows with one node more -/
abbrev free (n : Str) (r : List Tok) : Prop := ∀ p ∈ r, p.2 ≠ n
/-! ### they are the rows of woods -/
end Tw

namespace Tw
open PySem PySem.Spec PyProof.Rows L2
/-! ### the law's rows -/
theorem ltD_int (a b : Int) : ltD (.int a) (.int b) = some (.bool (decide (a < b))) := by simp [ltD]
end Tw

namespace Tw
open PySem PySem.Spec PyProof.Rows L2
/-! ### rows with one node more, as the law makes them -/
end Tw

namespace Tw
open PySem PySem.Spec PyProof.Rows L2
end Tw

namespace Tw
open PySem PySem.Spec PyProof.Rows L2
/-! ### what is a tuple of unlike names, four at most -/
end Tw

namespace Tw
open PySem PySem.Spec PyProof.Rows L2
/-! ### all woods with some names -/
end Tw

namespace Tw
open PySem PySem.Spec PyProof.Rows L2
/-! ### what is no deed, any data -/
end Tw

namespace Tw
open PySem PySem.Spec PyProof.Rows L2
/-! ### the law's judge of deeds -/
end Tw

namespace Tw
open PySem PySem.Spec PyProof.Rows L2
/-! ### what is a right deed -/
end Tw

namespace Tw
open PySem PySem.Spec PyProof.Rows L2
/-! ### what is no script, any data -/
end Tw

namespace Tw
open PySem PySem.Spec PyProof.Rows L2
/-! ### the law's judge of scripts -/
theorem Ev.ixO {i : Nat} {mb : ME} {env : Env} {xs : List Dt} {n : Nat} {x : Dt} (h : env[i]? = some (some (.own (.l xs)))) (hb : Ev mb env (.int (n : Nat))) (hx : xs[n]? = some x) : Ev (mOp ixA (mVar i) mb) env x := fun te => by
  have hv : mVar i env te = .ok (.rf i none) env := by unfold mVar; rw [h]; rfl
  have ho : (A.rf i none).lst? env = some xs := by
    have : owAt env i = some (.l xs) := by unfold owAt; rw [h]
    show ((A.rf i none).ow env).bind Ow.lst? = some xs
    show ((owAt env i)).bind Ow.lst? = some xs
    rw [this]
    rfl
  rw [ev_mOp, hv, zq00, ek_mOp_0, hb, zq00, ek_mOp_1]
  have ha : atI xs (n : Int) = some x := by
    have hn : n < xs.length := (List.getElem?_eq_some_iff.mp hx).1
    exact atI_nat hx
  show (match (A.rf i none).tup? with
    | some xs => (match atI xs (n : Int) with
      | some x => Rs.ok (A.d x) env
      | none => .bad)
    | none => match (A.rf i none).lst? env with
      | some xs => (match atI xs (n : Int) with
        | some x => Rs.ok (A.d x) env
        | none => .bad)
      | none => _) = _
  rw [ho]
  show (match atI xs (n : Int) with | some x => Rs.ok (A.d x) env | none => .bad) = _
  rw [ha]
end Tw

namespace Tw
open PySem PySem.Spec PyProof.Rows L2
/-! ### the table of a script -/
end Tw

namespace Tw
open PySem PySem.Spec PyProof.Rows L2
/-! ### the refusals of a table -/
end Tw

namespace Tw
open PySem PySem.Spec PyProof.Rows L2
end Tw

namespace Tw
open PySem PySem.Spec PyProof.Rows L2
end Tw

namespace Tw
open PySem PySem.Spec PyProof.Rows L2
end Tw

namespace Tw
open PySem PySem.Spec PyProof.Rows L2
/-! ### mixing data -/
end Tw

namespace Tw
open PySem PySem.Spec PyProof.Rows L2
/-! ### a deed on some names -/
end Tw

namespace Tw
open PySem PySem.Spec PyProof.Rows L2
end Tw

namespace Tw
open PySem PySem.Spec PyProof.Rows L2
end Tw

namespace Tw
open PySem PySem.Spec PyProof.Rows L2
/-! ### a script spoilt -/
end Tw

namespace Tw
open PySem PySem.Spec PyProof.Rows L2
end Tw

namespace Tw
open PySem PySem.Spec PyProof.Rows L2
/-! ### the answers can be shown -/
/-! ### parts of a law's turn that draw -/
end Tw

namespace Tw
open PySem PySem.Spec PyProof.Rows L2
/-! ### the children of a name, in a row -/
def K : List Str → List RI → Str → List Str
  | _, [], _ => []
  | S, .g _ :: r, n => K S r n
  | S, .e (true, m) :: r, n => if S.headD "" = n then m :: K (m :: S) r n else K (m :: S) r n
  | S, .e (false, _) :: r, n => K S.tail r n
theorem K_app : ∀ {a : List RI} {S T : List Str} {b : List RI} {n : Str}, run S a = some T → K S (a ++ b) n = K S a n ++ K T b n
  | [], S, T, b, n, h => by cases h; rfl
  | .g k :: a, S, T, b, n, h => K_app (a := a) (S := S) h
  | .e (true, m) :: a, S, T, b, n, h => by
    have ih := K_app (a := a) (S := m :: S) (b := b) (n := n) h
    show (if S.headD "" = n then m :: K (m :: S) (a ++ b) n else K (m :: S) (a ++ b) n) = (if S.headD "" = n then m :: K (m :: S) a n else K (m :: S) a n) ++ _
    rw [ih]
    split <;> rfl
  | .e (false, m) :: a, [], T, b, n, h => nomatch h
  | .e (false, m) :: a, s :: S, T, b, n, h => by
    have h' : (if s = m then run S a else none) = some T := h
    split at h'
    · exact K_app (a := a) (S := S) h'
    · cases h'
theorem K_bal {I b : List RI} {S : List Str} {n : Str} (h : Bal I) : K S (I ++ b) n = K S I n ++ K S b n := K_app (h S)
def hd1 (S : List Str) (n m : Str) : List Str := if S.headD "" = n then [m] else []
theorem K_node {I B : List RI} {S : List Str} {n m : Str} (h : Bal I) : K S (.e (true, m) :: (I ++ .e (false, m) :: B)) n = hd1 S n m ++ (K (m :: S) I n ++ K S B n) := by
  have e : K (m :: S) (I ++ .e (false, m) :: B) n = K (m :: S) I n ++ K S B n := K_bal h
  show (if S.headD "" = n then m :: K (m :: S) (I ++ .e (false, m) :: B) n else K (m :: S) (I ++ .e (false, m) :: B) n) = _
  rw [e]
  unfold hd1
  split <;> rfl
theorem K_none : ∀ {w : GW} {S : List Str} {n : Str}, S.headD "" ≠ n → RI.e (true, n) ∉ w.row → K S w.row n = []
  | .nil, _, _, _, _ => rfl
  | .gap k r, S, n, h, hn => K_none (w := r) h fun z => hn (List.mem_cons_of_mem _ z)
  | .cons m i r, S, n, h, hn => by
    have hm : m ≠ n := fun e => hn (by rw [e]; exact List.mem_cons_self)
    have h1 : RI.e (true, n) ∉ i.row := fun z => hn (List.mem_cons_of_mem _ (List.mem_append_left _ z))
    have h2 : RI.e (true, n) ∉ r.row := fun z => hn (List.mem_cons_of_mem _ (List.mem_append_right _ (List.mem_cons_of_mem _ z)))
    show K S (.e (true, m) :: (i.row ++ .e (false, m) :: r.row)) n = []
    rw [K_node i.bal, K_none (w := i) (S := m :: S) hm h1, K_none (w := r) h h2]
    unfold hd1
    rw [if_neg h]
    rfl
theorem Bal.K_none {I : List RI} {S : List Str} {n : Str} (b : Bal I) (h : S.headD "" ≠ n) (hn : RI.e (true, n) ∉ I) : K S I n = [] := by
  obtain ⟨w, rfl⟩ := gw_of (b [])
  exact Tw.K_none h hn
/-- a name that is not open has no children -/
theorem K_out : ∀ {a : List RI} {S : List Str} {n : Str}, n ≠ "" → n ∉ S → RI.e (true, n) ∉ a → K S a n = []
  | [], _, _, _, _, _ => rfl
  | .g k :: a, S, n, h0, h1, h2 => K_out (a := a) h0 h1 fun z => h2 (List.mem_cons_of_mem _ z)
  | .e (true, m) :: a, S, n, h0, h1, h2 => by
    have hm : n ≠ m := fun e => h2 (by rw [e]; exact List.mem_cons_self)
    show (if S.headD "" = n then m :: K (m :: S) a n else K (m :: S) a n) = []
    rw [K_out (a := a) h0 (fun z => (List.mem_cons.mp z).elim hm h1) fun z => h2 (List.mem_cons_of_mem _ z)]
    refine if_neg fun z => ?_
    cases S with
    | nil => exact h0 z.symm
    | cons s S => exact h1 (by rw [← z]; exact List.mem_cons_self)
  | .e (false, m) :: a, S, n, h0, h1, h2 => K_out (a := a) (S := S.tail) h0 (fun z => h1 (List.mem_of_mem_tail z)) fun z => h2 (List.mem_cons_of_mem _ z)
theorem K_congr : ∀ {w : GW} {S T : List Str} {n : Str}, (S.headD "" = n ↔ T.headD "" = n) → K S w.row n = K T w.row n
  | .nil, _, _, _, _ => rfl
  | .gap k r, S, T, n, h => K_congr (w := r) h
  | .cons m i r, S, T, n, h => by
    show K S (.e (true, m) :: (i.row ++ .e (false, m) :: r.row)) n = K T (.e (true, m) :: (i.row ++ .e (false, m) :: r.row)) n
    rw [K_node i.bal, K_node i.bal, K_congr (w := i) (S := m :: S) (T := m :: T) Iff.rfl, K_congr (w := r) h]
    unfold hd1
    by_cases c : S.headD "" = n
    · rw [if_pos c, if_pos (h.mp c)]
    · rw [if_neg c, if_neg fun z => c (h.mpr z)]
theorem Bal.K_congr {I : List RI} {S T : List Str} {n : Str} (b : Bal I) (h : S.headD "" = n ↔ T.headD "" = n) : K S I n = K T I n := by
  obtain ⟨w, rfl⟩ := gw_of (b [])
  exact Tw.K_congr h
theorem K_mem : ∀ {a : List RI} {S : List Str} {n m : Str}, m ∈ K S a n → RI.e (true, m) ∈ a
  | [], _, _, _, h => nomatch h
  | .g k :: a, S, n, m, h => List.mem_cons_of_mem _ (K_mem (a := a) h)
  | .e (true, x) :: a, S, n, m, h => by
    have h' : m ∈ (if S.headD "" = n then x :: K (x :: S) a n else K (x :: S) a n) := h
    split at h'
    · rcases List.mem_cons.mp h' with rfl | h'
      · exact List.mem_cons_self
      · exact List.mem_cons_of_mem _ (K_mem h')
    · exact List.mem_cons_of_mem _ (K_mem h')
  | .e (false, x) :: a, S, n, m, h => List.mem_cons_of_mem _ (K_mem (a := a) h)
theorem run_sub : ∀ {a : List RI} {S T : List Str} {n : Str}, run S a = some T → n ∈ T → n ∈ S ∨ RI.e (true, n) ∈ a
  | [], S, T, n, h, hn => by cases h; exact .inl hn
  | .g k :: a, S, T, n, h, hn => (run_sub (a := a) h hn).imp id (List.mem_cons_of_mem _)
  | .e (true, m) :: a, S, T, n, h, hn => by
    rcases run_sub (a := a) (S := m :: S) h hn with z | z
    · rcases List.mem_cons.mp z with rfl | z
      · exact .inr List.mem_cons_self
      · exact .inl z
    · exact .inr (List.mem_cons_of_mem _ z)
  | .e (false, m) :: a, [], T, n, h, hn => nomatch h
  | .e (false, m) :: a, s :: S, T, n, h, hn => by
    have h' : (if s = m then run S a else none) = some T := h
    split at h'
    · exact (run_sub (a := a) h' hn).imp (List.mem_cons_of_mem _) (List.mem_cons_of_mem _)
    · cases h'
theorem run_pre {a b : List RI} (h : Bal (a ++ b)) : ∃ T, run [] a = some T := by
  have e := h []
  rw [run_app] at e
  cases q : run [] a with
  | none => rw [q] at e; cases e
  | some T => exact ⟨T, rfl⟩
/-- no name is the empty text -/
def Nn (r : List RI) : Prop := ∀ n, Th r n → n ≠ ""
/-- the children around a block -/
structure Ar (r : List RI) (a : Str) (A I B : List RI) (T : List Str) : Prop where
  run : run [] A = some T
  par : T.headD "" = "" ∨ Th A (T.headD "")
  pn : ∀ c, RI.e (c, T.headD "") ∉ I
  pa : T.headD "" ≠ a
  at1 : K [] r (T.headD "") = K [] A (T.headD "") ++ a :: K T B (T.headD "")
  at2 : K [] (A ++ B) (T.headD "") = K [] A (T.headD "") ++ K T B (T.headD "")
  na : a ∉ K [] A (T.headD "")
  nb : a ∉ K T B (T.headD "")
  oth : ∀ n, n ≠ T.headD "" → (n = "" ∨ Th A n ∨ Th B n) → K [] r n = K [] (A ++ B) n
  inn : ∀ n, n = a ∨ Th I n → K [] r n = K [a] I n
theorem Sp.dis {r A I B : List RI} {a : Str} (s : Sp r a A I B) (o : Ok r) {n : Str} (h : Th I n) : n ≠ a ∧ ∀ c, RI.e (c, n) ∉ A ∧ RI.e (c, n) ∉ B := by
  have bp := s.bal.pair n
  have nd := o.nd
  rw [s.eq, ends_app] at nd
  have e : ends (.e (true, a) :: (I ++ .e (false, a) :: B)) = (true, a) :: (ends I ++ (false, a) :: ends B) := by
    show (true, a) :: ends (I ++ .e (false, a) :: B) = _
    rw [ends_app]
    rfl
  rw [e] at nd
  have n1 := List.nodup_append.mp nd
  have n2 := List.nodup_append.mp (List.nodup_cons.mp n1.2.1).2
  have inI : ∀ c, (c, n) ∈ ends I := fun c => by
    cases c
    · exact mem_ends.mpr (bp.mp h)
    · exact mem_ends.mpr h
  refine ⟨fun z => (s.out true).2.1 (by rw [← z]; exact h), fun c => ⟨fun z => ?_, fun z => ?_⟩⟩
  · exact n1.2.2 _ (mem_ends.mpr z) _ (List.mem_cons_of_mem _ (List.mem_append_left _ (inI c))) rfl
  · exact n2.2.2 _ (inI c) _ (List.mem_cons_of_mem _ (mem_ends.mpr z)) rfl
theorem Sp.ar {r A I B : List RI} {a : Str} (s : Sp r a A I B) (o : Ok r) (nn : Nn r) : ∃ T, Ar r a A I B T := by
  have bl := o.bal
  rw [s.eq] at bl
  obtain ⟨T, hT⟩ := run_pre bl
  have a0 : a ≠ "" := nn a (by show RI.e (true, a) ∈ r; rw [s.eq]; exact List.mem_append_right _ List.mem_cons_self)
  have oI : ∀ {n : Str}, Th I n → n ≠ "" := fun {n} h => nn n (by show RI.e (true, n) ∈ r; rw [s.eq]; exact List.mem_append_right _ (List.mem_cons_of_mem _ (List.mem_append_left _ h)))
  have par : T.headD "" = "" ∨ Th A (T.headD "") := by
    cases T with
    | nil => exact .inl rfl
    | cons t T => exact .inr ((run_sub hT List.mem_cons_self).resolve_left fun h => nomatch h)
  have pa : T.headD "" ≠ a := fun e => by
    rcases par with h | h
    · exact a0 (e.symm.trans h)
    · rw [e] at h
      exact (s.out true).1 h
  have pn1 : ¬ Th I (T.headD "") := fun z => by
    rcases par with h | h
    · exact oI z h
    · exact ((s.dis o z).2 true).1 h
  have pn : ∀ c, RI.e (c, T.headD "") ∉ I := fun c z => by
    cases c
    · exact pn1 ((s.bal.pair _).mpr z)
    · exact pn1 z
  have eq : ∀ n, K [] r n = K [] A n ++ (hd1 T n a ++ (K (a :: T) I n ++ K T B n)) := fun n => by
    conv => lhs; rw [s.eq]
    rw [K_app hT, K_node s.bal]
  have eq2 : ∀ n, K [] (A ++ B) n = K [] A n ++ K T B n := fun n => K_app hT
  have kI : ∀ n, n ≠ a → ¬ Th I n → K (a :: T) I n = [] := fun n h1 h2 => s.bal.K_none (fun z => h1 z.symm) h2
  refine ⟨T, hT, par, pn, pa, ?_, eq2 _, fun z => (s.out true).1 (K_mem z), fun z => (s.out true).2.2 (K_mem z), fun n h1 h2 => ?_, fun n h => ?_⟩
  · rw [eq, kI _ pa pn1]
    unfold hd1
    rw [if_pos rfl]
    rfl
  · have nI : n ≠ a ∧ ¬ Th I n := by
      refine ⟨fun e => ?_, fun z => ?_⟩
      · rw [e] at h2
        rcases h2 with h2 | h2 | h2
        · exact a0 h2
        · exact (s.out true).1 h2
        · exact (s.out true).2.2 h2
      · rcases h2 with h2 | h2 | h2
        · exact oI z h2
        · exact ((s.dis o z).2 true).1 h2
        · exact ((s.dis o z).2 true).2 h2
    rw [eq, eq2, kI n nI.1 nI.2]
    unfold hd1
    rw [if_neg (fun z => h1 z.symm)]
    rfl
  · have h0 : n ≠ "" := by
      rcases h with h | h
      · rw [h]; exact a0
      · exact oI h
    have hA : RI.e (true, n) ∉ A := by
      rcases h with h | h
      · rw [h]; exact (s.out true).1
      · exact ((s.dis o h).2 true).1
    have hB : RI.e (true, n) ∉ B := by
      rcases h with h | h
      · rw [h]; exact (s.out true).2.2
      · exact ((s.dis o h).2 true).2
    have hTn : n ∉ T := fun z => (run_sub hT z).elim (fun h => nomatch h) hA
    have hh : T.headD "" ≠ n := fun z => by
      cases T with
      | nil => exact h0 z.symm
      | cons t T => exact hTn (by rw [← z]; exact List.mem_cons_self)
    rw [eq, K_out (S := []) h0 List.not_mem_nil hA, K_out h0 hTn hB]
    unfold hd1
    rw [if_neg hh, List.nil_append, List.nil_append, List.append_nil]
    exact s.bal.K_congr Iff.rfl
end Tw

namespace Tw
open PySem PySem.Spec PyProof.Rows L2
/-! ### a dict of lists, by what stands at its keys -/
abbrev Kv := List (Key × List Dt)
/-! ### lists in a dict, changed in place -/
end Tw

namespace Tw
open PySem PySem.Spec PyProof.Rows L2
/-! ### moves, by the children -/
theorem Sp.th {r A I B : List RI} {a : Str} (s : Sp r a A I B) (n : Str) : Th r n ↔ (n = a ∨ Th I n) ∨ Th (A ++ B) n := by
  show RI.e (true, n) ∈ r ↔ (n = a ∨ RI.e (true, n) ∈ I) ∨ RI.e (true, n) ∈ A ++ B
  rw [s.eq]
  simp only [List.mem_append, List.mem_cons, RI.e.injEq, Prod.mk.injEq, true_and, Bool.true_eq_false, false_and, false_or]
  constructor
  · rintro (h | h | h | h)
    · exact .inr (.inl h)
    · exact .inl (.inl h)
    · exact .inl (.inr h)
    · exact .inr (.inr h)
  · rintro ((h | h) | h | h)
    · exact .inr (.inl h)
    · exact .inr (.inr (.inl h))
    · exact .inl h
    · exact .inr (.inr (.inr h))
section
variable {kvs : Kv} {r r' A I B A' B' : List RI} {a : Str} {T T' : List Str}
theorem Ar.pI {r A I B : List RI} (h : Ar r a A I B T) : ¬ (T.headD "" = a ∨ Th I (T.headD "")) := fun z => z.elim h.pa (h.pn true)
end
end Tw

namespace Tw
open PySem PySem.Spec PyProof.Rows L2
end Tw

namespace Tw
open PySem PySem.Spec PyProof.Rows L2
/-! ### the children behind the other deeds -/
/-! ### names exchanged -/
end Tw

namespace Tw
open PySem PySem.Spec PyProof.Rows L2
end Tw

namespace Tw
open PySem PySem.Spec PyProof.Rows L2
/-! ### how many keys there are -/
def bg : List RI → List Str
  | [] => []
  | .e (true, m) :: r => m :: bg r
  | _ :: r => bg r
/-! ### steps that change the dict -/
end Tw

namespace Tw
open PySem PySem.Spec PyProof.Rows L2
/-! ### the deeds that are no moves -/
/-! the nodes of a stretch -/
def GW.tp : GW → List (Str × GW)
  | .nil => []
  | .gap _ r => r.tp
  | .cons n i r => (n, i) :: r.tp
def pn (l : List (Str × GW)) : List Str := l.flatMap fun x => x.1 :: bg x.2.row
end Tw

namespace Tw
open PySem PySem.Spec PyProof.Rows L2
end Tw

namespace Tw
open PySem PySem.Spec PyProof.Rows L2
/-! ### the dict of a wood's children -/
theorem Wd.nn {w : Wd} (hnm : ∀ z ∈ w.names, IsNm z) : Nn w.rows := fun n hn => nm_ne (hnm n (Wd.th.mp hn))
/-! ### the word with which a deed stops -/
end Tw

namespace Tw
open PySem PySem.Spec PyProof.Rows L2
/-! ### a script done with the dict of children -/
end Tw

namespace Tw
open PySem PySem.Spec PyProof.Rows L2
/-! ### where a script stops -/
/-! ### the fate of a script -/
end Tw

namespace Tw
open PySem PySem.Spec PyProof.Rows L2
/-! ### what is told of stops can be shown -/
/-! ### what the law collects -/
def valD : DRs → Dt
  | .ok (.d y) _ => y
  | _ => .none
end Tw

namespace Tw
open PySem PySem.Spec PyProof.Rows L2
/-! ### the new names of a drawn script -/
/-! ### old names of scripts and of wishes -/
/-! ### the rows for a script and names -/
end Tw

namespace Tw
open PySem PySem.Spec PyProof.Rows L2
/-! ### what is a wood -/
end Tw

namespace Tw
open PySem PySem.Spec PyProof.Rows L2
/-! ### whether a wood fits, how many nodes it has -/
/-! ### the names in a wish -/
end Tw

namespace Tw
open PySem PySem.Spec PyProof.Rows L2
/-! ### a wish is so, the deeds do, another wish is not so behind them -/
end Tw

namespace Tw
open PySem PySem.Spec PyProof.Rows L2
/-! ### sure, keeps and where of any script -/
end Tw

namespace Tw
open PySem PySem.Spec PyProof.Rows L2
/-! ### a comprehension over things that are told by data -/
theorem lc_al {α : Type} {mi : MI} {tt : MT} {el : ME} {j : Nat} {env : Env} {te as : List A} {rd : Env → Option (List Dt)} (ws : List α) (D : α → Dt) (p : α → Bool) (f : α → Dt) (hm : mi env te = .ok (as, rd) env) (hr : rd env = some (ws.map D)) (hj : env[j]? = some none) (ha : anyC (isRf j) env (as ++ te) = false) (hl : ws.length ≤ 100000)
    (ht : ∀ w ∈ ws, ∀ acc : List Dt, tt (env.set j (some (.d (D w)))) (.own (.l acc) :: (as ++ te)) = .ok (p w) (env.set j (some (.d (D w))))) (he : ∀ w ∈ ws, p w = true → ∀ acc : List Dt, el (env.set j (some (.d (D w)))) (.own (.l acc) :: (as ++ te)) = .ok (.d (f w)) (env.set j (some (.d (D w))))) :
    mLc .d mi (gN j) tt el [j] env te = .ok (.own (.l ((ws.filter p).map f))) env := by
  have hjl : j < env.length := by
    cases h : decide (j < env.length) with
    | true => exact of_decide_eq_true h
    | false =>
      rw [List.getElem?_eq_none (by have := of_decide_eq_false h; omega)] at hj
      cases hj
  have hset : env.set j none = env := by
    apply List.ext_getElem?
    intro k
    rw [List.getElem?_set]
    by_cases c : j = k
    · subst c; rw [if_pos rfl, if_pos hjl, hj]
    · rw [if_neg c]
  unfold anyC at ha
  rw [Bool.or_eq_false_iff] at ha
  obtain ⟨hae, hat⟩ := ha
  have hwo : ∀ (e1 : Env) (acc : List Dt), inE (isRf j) e1 = false → nIo e1[j]? = true → wipeOk e1 (.own (.l acc) :: (as ++ te)) [j] = true := fun e1 acc h1 h2 => by
    rw [wipeOk_cons, wipeOk_nil]
    show (true && !anyC (isRf j) e1 (.own (.l acc) :: (as ++ te)) && nIo e1[j]?) = true
    unfold anyC
    rw [h1, h2, List.any_cons, hat]
    rfl
  obtain ⟨ys, e', h1, ⟨P, R, h2, h3, h4, h5⟩⟩ := lc_ok (kd := .d) (mi := mi) (g := gN j) (tt := tt) (el := el) (vs := [j]) (env := env) (e := env) (te := te) (as := as) (rd := rd) (xs := ws.map D)
    (fun r acc e => ∃ (P R : List α), r = R.map D ∧ P ++ R = ws ∧ acc = (P.filter p).map f ∧ e = env) hm (hwo env [] hae (by rw [hj]; rfl)) ⟨[], ws, rfl, rfl, rfl, by show env.set j none = env; exact hset⟩ (fun r acc e ⟨_, _, _, _, _, h⟩ => by rw [h]; exact hr) (by
      rintro x r acc e ⟨P, R, h1, h2, h3, rfl⟩
      cases R with
      | nil => cases h1
      | cons w R =>
        rw [List.map_cons] at h1
        obtain ⟨rfl, rfl⟩ := List.cons.inj h1
        have hw : w ∈ ws := by rw [← h2]; exact List.mem_append_right _ List.mem_cons_self
        have hg : gN j (.d (D w)) e (.own (.l acc) :: (as ++ te)) = some (e.set j (some (.d (D w)))) := by
          refine if_pos ?_
          rw [ev_setOk, hj]
          unfold anyC
          rw [hae, List.any_cons, List.any_cons, hat]
          simp [hjl, nIo1, isRf, isIo]
        have hin : inE (isRf j) (e.set j (some (.d (D w)))) = false := by
          unfold inE at hae ⊢
          rw [List.any_eq_false] at hae ⊢
          intro c hc
          rcases List.mem_or_eq_of_mem_set hc with h | h
          · exact hae c h
          · rw [h]; simp [isRf]
        have hjj : (e.set j (some (.d (D w))))[j]? = some (some (.d (D w))) := by rw [List.getElem?_set_self hjl]
        have wip : ∀ acc, wipeOk (e.set j (some (.d (D w)))) (.own (.l acc) :: (as ++ te)) [j] = true := fun acc => hwo _ _ hin (by rw [hjj]; rfl)
        have back : wipeE (e.set j (some (.d (D w)))) [j] = e := by
          show (e.set j _).set j none = e
          rw [List.set_set, hset]
        have la : acc.length ≤ 100000 := by
          rw [h3, List.length_map]
          have l1 := List.length_filter_le p P
          have l2 := congrArg List.length h2
          rw [List.length_append] at l2
          omega
        refine ⟨_, hg, p w, _, ht w hw acc, fun hp => ⟨f w, _, he w hw hp acc, ?_, wip _, P ++ [w], R, rfl, by rw [List.append_assoc]; exact h2, ?_, back⟩, fun hp => ⟨wip _, P ++ [w], R, rfl, by rw [List.append_assoc]; exact h2, ?_, back⟩⟩
        · have l2 := congrArg List.length h2
          have l1 := List.length_filter_le p P
          rw [List.length_append, List.length_cons] at l2
          rw [h3, List.length_map]
          exact big' (by omega)
        · rw [h3, List.filter_append, List.filter_cons, if_pos hp, List.map_append]
          rfl
        · rw [h3, List.filter_append, List.filter_cons, if_neg (by rw [hp]; exact Bool.false_ne_true), List.filter_nil, List.append_nil])
  have hR : R = [] := by
    cases R with
    | nil => rfl
    | cons _ _ => cases h2
  rw [hR, List.append_nil] at h3
  rw [h1, h4, h5, h3]
/-! ### a wish judged by the law -/
end Tw

namespace Tw
open PySem PySem.Spec PyProof.Rows L2
/-! ### what a drawn script is -/
/-! ### rows of the law and the woods of these -/
end Tw

namespace Tw
open PySem PySem.Spec PyProof.Rows L2
/-! ### a wish behind deeds, a wish that is lost -/
/-! ### rows can be shown -/
end Tw

namespace Tw
open PySem PySem.Spec PyProof.Rows L2
/-! ### rows with gaps filled: deeds and fillings go in either order -/
def fillI (G : Nat → List RI) : List RI → List RI
  | [] => []
  | .e p :: r => .e p :: fillI G r
  | .g k :: r => G k ++ fillI G r
def pos (G : Nat → List RI) (r : List RI) (k : Nat) : Nat := (fillI G (r.take k)).length
end Tw

namespace Tw
open PySem PySem.Spec PyProof.Rows L2
/-! ### sayings by the row around a node -/
/-! ### a saying hangs on the named nodes and one more -/
end Tw

namespace Tw
open PySem PySem.Spec PyProof.Rows L2
/-! ### what is told of a wood is told of a small one -/
/-! a row out of its named ends and its gaps -/
/-! other names for one node -/
end Tw

namespace Tw
open PySem PySem.Spec PyProof.Rows L2
/-! ### fillings -/
theorem Evs.two {m1 m2 : ME} {env : Env} {x y : Dt} (h1 : Ev m1 env x) (h2 : Ev m2 env y) : Evs (mCons m1 (mCons m2 mNil)) env [x, y] := Evs.cons h1 (Evs.cons h2 Evs.nil)
end Tw

namespace Tw
open PySem PySem.Spec PyProof.Rows L2
/-! ### rows with gaps, filled -/
/-! ### a fresh name -/
end Tw

namespace Tw
open PySem PySem.Spec PyProof.Rows L2
/-! ### the names in a script -/
/-! ### what the fillings of the skeletons are -/
end Tw

namespace Tw
open PySem PySem.Spec PyProof.Rows L2
/-! ### what is shown: a dict with truths as keys -/
def bk (b : Bool) : Leaf := .num (if b = true then 1 else 0)
end Tw

namespace Tw
open PySem PySem.Spec PyProof.Rows L2
/-! ### what is told -/
end Tw

namespace Tw
open PySem PySem.Spec PyProof.Rows L2
/-! ### the law's questions about what is told -/
end Tw

namespace Tw
open PySem PySem.Spec PyProof.Rows L2
/-! ### what a saying says, as a wish -/
end Tw

namespace Tw
open PySem PySem.Spec PyProof.Rows L2
/-! ### woods whose names may be any short texts (printed by zcopy.py) -/
end Tw

namespace Tw
open PySem PySem.Spec PyProof.Rows L2
/-! ### the repr of small woods -/
end Tw

namespace Tw
open PySem PySem.Spec PyProof.Rows L2
/-! ### the law's answers over all small woods -/
end Tw

namespace Tw
open PySem PySem.Spec PyProof.Rows L2
end Tw

namespace Tw
open PySem PySem.Spec PyProof.Rows L2
/-! ### what is told, computed over the small woods -/
end Tw

namespace Tw
open PySem PySem.Spec PyProof.Rows L2
/-! ### the table of told (printed by tab58.py) -/
end Tw

namespace Tw
open PySem PySem.Spec PyProof.Rows L2
/-! ### other names for a script and a saying -/
end Tw

namespace Tw
open PySem PySem.Spec PyProof.Rows L2
/-! ### what is told hangs on the small woods -/
def lets : List Str := ["a", "b", "c", "n", "m"]
end Tw

namespace Tw
open PySem PySem.Spec PyProof.Rows L2
/-! ### deeds written as a text -/
end Tw

namespace Tw
open PySem PySem.Spec PyProof.Rows L2
end Tw

namespace Tw
open PySem PySem.Spec PyProof.Rows L2
end Tw

namespace Tw
open PySem PySem.Spec PyProof.Rows L2
end Tw

namespace Tw
open PySem PySem.Spec PyProof.Rows L2
/-! ### the numbers of gaps in a row, and where they stand -/
/-- behind how many ends a gap stands -/
def slot : List RI → Nat → Option Nat
  | [], _ => none
  | .e _ :: r, g => (slot r g).map (· + 1)
  | .g k :: r, g => if k = g then some 0 else slot r g
/-! ### the first place at which two lists are unlike -/
/-! ### what parts two results -/
/-! ### leaves in some gaps -/
end Tw

namespace Tw
open PySem PySem.Spec PyProof.Rows L2
/-! ### the row of a wood whose names may be any short texts -/
/-! ### leaves in all gaps -/
def dgL : List Str := ["0", "1", "2", "3", "4", "5", "6", "7", "8"]
def dg (k : Nat) : Str := dgL.getD k "0"
/-! filling by what is balanced -/
end Tw

namespace Tw
open PySem PySem.Spec PyProof.Rows L2
/-! ### the wood with a leaf in each gap -/
end Tw

namespace Tw
open PySem PySem.Spec PyProof.Rows L2
theorem Ev.m0 {g : Str → Dt} {m : ME} {env : Env} {s : Str} (h : Ev m env (.str s)) : Ev (mM0 g m) env (g s) := fun te => by
  show (m env te).bind _ = _
  rw [h te, zq00]
end Tw

namespace Tw
open PySem PySem.Spec PyProof.Rows L2
/-! ### behind how many ends each gap stands -/
end Tw

namespace Tw
open PySem PySem.Spec PyProof.Rows L2
/-! ### the ends of a row with gaps -/
theorem RI.kind (a : RI) : (∃ s, a.D = .str s) ∨ ∃ i, a.D = .int i := by
  cases a with
  | e p => exact .inl ⟨_, rfl⟩
  | g k => exact .inr ⟨_, rfl⟩
/-! ### when lists of ends and of places are equal -/
/-! ### how many leaves part two results, as the law asks it -/
end Tw

namespace Tw
open PySem PySem.Spec PyProof.Rows L2
/-! ### the gaps that part two results, as the program tells them -/
end Tw

namespace Tw
open PySem PySem.Spec PyProof.Rows L2
/-! ### fresh names, some -/
end Tw

namespace Tw
open PySem PySem.Spec PyProof.Rows L2
/-! ### the wood of a row with leaves in some gaps -/
/-! ### the program's wood_with -/
end Tw

namespace Tw
open PySem PySem.Spec PyProof.Rows L2
/-! ### a least wood that parts two rows of deeds -/
end Tw

namespace Tw
open PySem PySem.Spec PyProof.Rows L2
/-! ### whether two rows of deeds do unlike on a wood, as the law asks it -/
/-! ### what a leaf wood shows -/
end Tw

namespace Tw
open PySem PySem.Spec PyProof.Rows L2
/-! ### the old names of two scripts together -/
/-! ### alike, within, commutes -/
end Tw

namespace Tw
open PySem PySem.Spec PyProof.Rows L2
/-! ### the menu's names: not both n and nn -/
end Tw

namespace Tw
open PySem PySem.Spec PyProof.Rows L2
/-! ### a script that often does alike -/
end Tw

namespace Tw
open PySem PySem.Spec PyProof.Rows L2
/-! ### how few leaves part two scripts, as the law asks it -/
theorem ltD_natN (i j : Nat) : ltD (.int i) (.int j) = some (.bool (decide (i < j))) := by
  rw [ltD_int]
  congr 2
  rw [decide_eq_decide]
  omega
end Tw

namespace Tw
open PySem PySem.Spec PyProof.Rows L2
/-! ### what is told is right -/
end Tw

namespace Tw
open PySem PySem.Spec PyProof.Rows L2
/-! ### calls with lists of one's own among the arguments -/
/-! ### how few leaves part results, told over a list of them -/
/-! ### whether what is told is due -/
end Tw

namespace Tw
open PySem PySem.Spec PyProof.Rows L2
/-! ### within is right -/
end Tw

namespace Tw
open PySem PySem.Spec PyProof.Rows L2
/-! ### any wood over some names is a filling of its skeleton -/
/-! ### the test -/
end Tw

namespace Tw
open PySem PySem.Spec PyProof.Rows L2
/-! ### one node more, put in anywhere -/
def H2 (i j k : Nat) : List RI := (if k = i then [.g 0] else []) ++ (if k = j then [.g 1] else [])
end Tw

namespace Tw
open PySem PySem.Spec PyProof.Rows L2
/-! ### a script that often does alike: few names -/
end Tw

namespace Tw
open PySem PySem.Spec PyProof.Rows L2
/-! ### many rows -/
/-! ### the rows of small woods -/
end Tw

namespace Tw
open PySem PySem.Spec PyProof.Rows L2
end Tw

namespace Tw
open PySem PySem.Spec PyProof.Rows L2
/-! ### alike with its Clash -/
end Tw

namespace Tw
open PySem PySem.Spec PyProof.Rows L2
/-! ### lean, and the law's own -/
end Tw

namespace Tw
open PySem PySem.Spec PyProof.Rows L2
end Tw

namespace Tw
open PySem PySem.Spec PyProof.Rows L2
/-! ### which names a drawn script makes -/
end Tw

namespace Tw
open PySem PySem.Spec PyProof.Rows L2
/-! ### scripts of two deeds on four names -/
end Tw

namespace Tw
open PySem PySem.Spec PyProof.Rows L2
/-! ### plain facts of such scripts -/
/-! a row on which two deeds are done -/
end Tw

namespace Tw
open PySem PySem.Spec PyProof.Rows L2
/-! ### what the law says of the stops of two deeds -/
end Tw

namespace Tw
open PySem PySem.Spec PyProof.Rows L2
/-! ### alike and within of such scripts -/
end Tw

namespace Tw
open PySem PySem.Spec PyProof.Rows L2
/-! ### lists that a slot owns, made longer -/
/-! ### all deeds on some names -/
end Tw

namespace Tw
open PySem PySem.Spec PyProof.Rows L2
/-! ### all scripts of at most two deeds -/
/-! ### shortest -/
end Tw

namespace Tw
open PySem PySem.Spec PyProof.Rows L2
/-! ### calls that draw and are given an own list -/
/-! ### the candidates -/
theorem cb1_ev {g : Dt → Option Dt} {m : ME} {env : Env} {x z : Dt} (h : Ev m env x) (hg : g x = some z) : Ev (mCB (one (fl1 g)) (mCons m mNil)) env z := fun te => by
  have e : mCons m mNil env te = .ok [.d x] env := by
    rw [ev_mCons, h, zq00, ek_mCons_0]
    rfl
  show Rs.bind (mCons m mNil env te) _ = _
  rw [e, zq00]
  simp! [hg]
theorem gt_int {m : ME} {env : Env} {n : Nat} (k : Nat) (h : Ev m env (.int (n : Nat))) : Ev (mCB (one (fl1 intD)) (mCons (mOp (fl2 gtD) m (mC (.int (k : Nat)))) mNil)) env (.int (if decide (k < n) = true then 1 else 0)) :=
  cb1_ev (Ev.eq (g := gtD) h (Ev.c (x := .int (k : Nat))) (gtD_nat n k)) rfl
end Tw

namespace Tw
open PySem PySem.Spec PyProof.Rows L2
/-! ### the names of deeds -/
/-! ### is_short -/
end Tw

namespace Tw
open PySem PySem.Spec PyProof.Rows L2
/-! ### the table of lean scripts (printed by tab62.py) -/
end Tw

namespace Tw
open PySem PySem.Spec PyProof.Rows L2
/-! ### lean, computed and renamed -/
end Tw

namespace Tw
open PySem PySem.Spec PyProof.Rows L2
/-! ### what is told both ways round -/
/-! ### names of scripts behind one another -/
/-! ### what alike none says of woods -/
/-! ### a tail behind both -/
/-! ### three scripts -/
namespace Wd43
def app : Wd → Wd → Wd
  | .nil, b => b
  | .cons n i r, b => .cons n i (app r b)
theorem toks (b : Wd) : ∀ a : Wd, (app a b).toks = a.toks ++ b.toks
  | .nil => rfl
  | .cons n i r => by
    show (true, n) :: (i.toks ++ (false, n) :: (app r b).toks) = (true, n) :: (i.toks ++ (false, n) :: r.toks) ++ b.toks
    rw [toks b r]
    simp
theorem names (b : Wd) : ∀ a : Wd, (app a b).names = a.names ++ b.names
  | .nil => rfl
  | .cons n i r => by
    show n :: (i.names ++ (app r b).names) = n :: (i.names ++ r.names) ++ b.names
    rw [names b r]
    simp
end Wd43
end Tw

namespace Tw
open PySem PySem.Spec PyProof.Rows L2
/-! ### what is told of two scripts fits together -/
end Tw

namespace Tw
open PySem PySem.Spec PyProof.Rows L2
/-! ### tables told -/
/-! ### they can be shown -/
end Tw

namespace Tw
open PySem PySem.Spec PyProof.Rows L2
/-! ### plans for all woods -/
end Tw

namespace Tw
open PySem PySem.Spec PyProof.Rows L2
/-! ### the law's judges of plans -/
/-! ### the same of a tuple of names -/
end Tw

namespace Tw
open PySem PySem.Spec PyProof.Rows L2
/-! ### a wish that is aimed at -/
end Tw

namespace Tw
open PySem PySem.Spec PyProof.Rows L2
/-! ### calls of list methods whose argument draws -/
end Tw

namespace Tw
open PySem PySem.Spec PyProof.Rows L2
/-! ### is_plan -/
/-! ### the deeds lead on all these woods -/
/-! ### for the law -/
end Tw

namespace Tw
open PySem PySem.Spec PyProof.Rows L2
/-! ### a wood is its skeleton with its gaps filled -/
/-! ### looking up a row in a dict of pairs -/
/-! ### by_table -/
end Tw

namespace Tw
open PySem PySem.Spec PyProof.Rows L2
/-! ### what a table does to a wood, as the law tells it -/
end Tw

namespace Tw
open PySem PySem.Spec PyProof.Rows L2
/-! ### the table of a script for further names -/
end Tw

namespace Tw
open PySem PySem.Spec PyProof.Rows L2
/-! ### results that can be shown -/
/-! ### the tables of two scripts, one behind the other -/
end Tw

namespace Tw
open PySem PySem.Spec PyProof.Rows L2
/-! ### woods that are drawn from old names and others -/
end Tw

namespace Tw
open PySem PySem.Spec PyProof.Rows L2
/-! ### comprehensions of pairs -/
/-! ### values that are shown -/
/-! ### the results of the tables -/
/-! ### gaps without names -/
end Tw

namespace Tw
open PySem PySem.Spec PyProof.Rows L2
/-! ### turns of names and themselves ahead -/
end Tw

namespace Tw
open PySem PySem.Spec PyProof.Rows L2
/-! ### what a script loses: the plain part -/
end Tw

namespace Tw
open PySem PySem.Spec PyProof.Rows L2
/-! ### the helpers of loses -/
end Tw

namespace Tw
open PySem PySem.Spec PyProof.Rows L2
/-! ### pairs of woods that a script makes one -/
/-! ### loses -/
end Tw

namespace Tw
open PySem PySem.Spec PyProof.Rows L2
end Tw

namespace Tw
open PySem PySem.Spec PyProof.Rows L2
/-! ### the law's question about what is told of a loss -/
end Tw

namespace Tw
open PySem PySem.Spec PyProof.Rows L2
/-! ### losses that are known -/
end Tw

namespace Tw
open PySem PySem.Spec PyProof.Rows L2
/-! ### functions that are handed the deck -/
/-! ### another wood of the same names -/
end Tw

namespace Tw
open PySem PySem.Spec PyProof.Rows L2
/-! ### a script that loses nothing -/
end Tw

namespace Tw
open PySem PySem.Spec PyProof.Rows L2
/-! ### a script that loses: with further deeds it loses too -/
end Tw

namespace Tw
open PySem PySem.Spec PyProof.Rows L2
/-! ### two old names exchanged ahead -/
end Tw

namespace Tw
open PySem PySem.Spec PyProof.Rows L2
/-! ### the repr of a wood tells the wood -/
open PySem.Builtin.Str
end Tw

namespace Tw
open PySem PySem.Spec PyProof.Rows L2
/-! ### the least number of nodes of two woods that are made one -/
/-! ### the state of the law's search -/
def rsD (ds : List Dd) (t : List Tok) : (Nat × Str) ⊕ List RI := doneAll 0 (t.map .e) ds
def Same (ds : List Dd) (t t' : List Tok) : Prop := ∃ r, rsD ds t = .inr r ∧ rsD ds t' = .inr r
end Tw

namespace Tw
open PySem PySem.Spec PyProof.Rows L2
/-! ### the least is what loses tells -/
end Tw

namespace Tw
open PySem PySem.Spec PyProof.Rows L2
/-! ### the law's search for the least loss -/
def nD (F : List Nat) : List Dt := F.map fun (n : Nat) => PyData.int (n : Int)
end Tw

namespace Tw
open PySem PySem.Spec PyProof.Rows L2
/-! ### wishes and scripts on a wood and on a part of it -/
end Tw

namespace Tw
open PySem PySem.Spec PyProof.Rows L2
/-! ### the twin's spare name is made before it is old -/
end Tw

namespace Tw
open PySem PySem.Spec PyProof.Rows L2
/-! ### scripts that do the same -/
/-! ### more about functions that are handed the deck -/
end Tw

namespace Tw
open PySem PySem.Spec PyProof.Rows L2
/-! ### plans -/
end Tw

namespace Tw
open PySem PySem.Spec PyProof.Rows L2
/-! ### what lean leaves -/
/-! ### lean leaves a script that does the same -/
end Tw

namespace Tw
open PySem PySem.Spec PyProof.Rows L2
/-! ### shortest is as short as lean where lean leaves two or fewer -/
end Tw

namespace Tw
open PySem PySem.Spec PyProof.Rows L2
/-! ### the least number over a list -/
/-! ### how few leaves part, reckoned -/
/-! ### it is so with other names -/
/-! ### pairs that are known (printed by tab44.py) -/
end Tw

namespace Tw
open PySem PySem.Spec PyProof.Rows L2
/-! ### what the law asks of what is told of a known pair -/
end Tw

namespace Tw
open PySem PySem.Spec PyProof.Rows L2
/-! ### six names of one letter -/
end Tw

namespace Tw
open PySem PySem.Spec PyProof.Rows L2
end Tw

namespace Tw
open PySem PySem.Spec PyProof.Rows L2
end Tw

namespace Tw
open PySem PySem.Spec PyProof.Rows L2
/-! ### the other model of children: _law_cut_off, _law_changed, _law_word, _law_ran -/
end Tw

namespace Tw
open PySem PySem.Spec PyProof.Rows L2
/-! ### what a call by a lambda does -/
end Tw

namespace Tw
open PySem PySem.Spec PyProof.Rows L2
/-! ### names that are none, names that are not there -/
end Tw

namespace Tw
open PySem PySem.Spec PyProof.Rows L2
end Tw

namespace Tw
open PySem PySem.Spec PyProof.Rows L2
end Tw

namespace Tw
open PySem PySem.Spec PyProof.Rows L2
/-! ### things that are not the name of a node -/
end Tw

namespace Tw
open PySem PySem.Spec PyProof.Rows L2
/-! ### what can be shown -/
end Tw

namespace Tw
open PySem PySem.Spec PyProof.Rows L2
/-! ### the row's deep part: three chains put into one another -/
end Tw

namespace Tw
open PySem PySem.Spec PyProof.Rows L2
end Tw

namespace Tw
open PySem PySem.Spec PyProof.Rows L2
end Tw

namespace Tw
open PySem PySem.Spec PyProof.Rows L2
end Tw

namespace Tw
open PySem PySem.Spec PyProof.Rows L2
/-! ### the judge of woods, over any data -/
end Tw

namespace Tw
open PySem PySem.Spec PyProof.Rows L2
end Tw

namespace Tw
open PySem PySem.Spec PyProof.Rows L2
end Tw

namespace Tw
open PySem PySem.Spec PyProof.Rows L2
/-! ### woods with odd things in some places -/
end Tw

namespace Tw
open PySem PySem.Spec PyProof.Rows L2
/-! ### odd things are small -/
end Tw

namespace Tw
open PySem PySem.Spec PyProof.Rows L2
/-! ### the names of two scripts, refused or not -/
end Tw

namespace Tw
open PySem PySem.Spec PyProof.Rows L2
end Tw

namespace Tw
open PySem PySem.Spec PyProof.Rows L2
/-! ### wishes and scripts that may be none, and what is told of them -/
/-! ### a wish, good or not -/
/-! ### what is due -/
structure It where
  sc : Bool
  v : Dt
  e : Dt
def It.word (i : It) : Str := if i.sc = true then "script" else "wish"
def pr (i : It) : Dt := .tuple [i.v, .str i.word]
/-! ### what is told by the def that is handed a lambda -/
end Tw

namespace Tw
open PySem PySem.Spec PyProof.Rows L2
/-! ### sayings that may be none -/
/-! ### holds and told -/
end Tw

namespace Tw
open PySem PySem.Spec PyProof.Rows L2
/-! ### the texts of the law, as it says them -/
/-! ### words -/
def wdI : RI → Str
  | .g k => dg k
  | .e p => tkS p
def okL : List RI := [.g 0, .g 1, .g 2, .g 3, .g 4, .e (true, "a"), .e (false, "a"), .e (true, "b"), .e (false, "b"), .e (true, "n"), .e (false, "n")]
def okB (x : RI) : Bool := decide (x ∈ okL)
end Tw

namespace Tw
open PySem PySem.Spec PyProof.Rows L2
/-! ### the result that a text tells -/
def rnRes (f : Str → Str) : (Nat × Str) ⊕ List RI → (Nat × Str) ⊕ List RI
  | .inl p => .inl p
  | .inr r => .inr (rnR f r)
/-- the text tells the result -/
def tells (t : Str) : (Nat × Str) ⊕ List RI → Bool
  | .inl p => decide (t = "inside") && decide (p = (0, ("inside" : Str)))
  | .inr r => decide (t ≠ "inside") && decide (Txt.split t " " = r.map wdI) && r.all okB && decide (r.length ≤ 16)
/-! ### the table that texts tell -/
structure Lt where
  tx : Str
  rw : Str
  t : List Tok
  x : (Nat × Str) ⊕ List RI
def Lt.ok (l : Lt) : Bool := tells l.tx l.x && decide (Txt.split l.rw " " = l.t.map tkS) && (l.t.map RI.e).all okB && decide (l.tx.length ≤ 200) && decide (l.rw.length ≤ 200) && decide (l.t.length ≤ 100) && decide (l.t ≠ [])
def Lt.row (f : Str → Str) (l : Lt) : List Tok := l.t.map (rnT f)
def Lt.D (f : Str → Str) (l : Lt) : Dt := .tuple [rowT (l.row f), resD (rnRes f l.x)]
/-! ### sorted by the rows -/
end Tw

namespace Tw
open PySem PySem.Spec PyProof.Rows L2
/-! ### what the law says of each deed, reckoned -/
end Tw

namespace Tw
open PySem PySem.Spec PyProof.Rows L2
/-! ### plan, where it may raise -/
end Tw

namespace Tw
open PySem PySem.Spec PyProof.Rows L2
/-! ### what is told of a plan -/
/-! ### what is due -/
end Tw

namespace Tw
open PySem PySem.Spec PyProof.Rows L2
end Tw

namespace Tw
open PySem PySem.Spec PyProof.Rows L2
/-! ### wishes with other names -/
/-! ### wishes by the row -/
end Tw

namespace Tw
open PySem PySem.Spec PyProof.Rows L2
/-! ### plans with other names -/
end Tw

namespace Tw
open PySem PySem.Spec PyProof.Rows L2
end Tw

namespace Tw
open PySem PySem.Spec PyProof.Rows L2
/-! ### the wishes that are written there -/
end Tw

namespace Tw
open PySem PySem.Spec PyProof.Rows L2
/-! ### scripts and ends with other names -/
end Tw

namespace Tw
open PySem PySem.Spec PyProof.Rows L2
/-! ### a table with other names -/
end Tw

namespace Tw
open PySem PySem.Spec PyProof.Rows L2
/-! ### the table of a script with other names is the same table -/
end Tw

namespace Tw
open PySem PySem.Spec PyProof.Rows L2
/-! ### lean with other names -/
end Tw

namespace Tw
open PySem PySem.Spec PyProof.Rows L2
/-! ### how many nodes alike, within and commutes tell, with other names -/
end Tw

namespace Tw
open PySem PySem.Spec PyProof.Rows L2
/-! ### how many deeds a plan has, with other names -/
end Tw

namespace Tw
open PySem PySem.Spec PyProof.Rows L2
/-! ### how many deeds a shortest script has, with other names -/
end Tw

namespace Tw
open PySem PySem.Spec PyProof.Rows L2
/-! ### fate with other names -/
end Tw

namespace Tw
open PySem PySem.Spec PyProof.Rows L2
/-! ### what loses tells, with other names: pairs of as many nodes -/
end Tw

namespace Tw
open PySem PySem.Spec PyProof.Rows L2
/-! ### sure and keeps with other names -/
end Tw

namespace Tw
open PySem PySem.Spec PyProof.Rows L2
/-! ### instances: what the evaluators do -/
theorem mVar_ob {env : Env} {te : List A} {i : Nat} {o : Ow} (h : owAt env i = some o) : mVar i env te = .ok (.rf i none) env := by
  show (match env[i]? with | some (some a) => Rs.ok (vA i a) env | _ => .bad) = _
  rcases owAt_cell h with e | e
  · rw [e]; rfl
  · rw [e]; rfl
theorem cvd (env : Env) : ∀ xs : List Dt, cvAs (xs.map fun _ => false) (xs.map .d) env = some (xs.map fun x => ⟨.d x, none, none⟩)
  | [] => rfl
  | x :: xs => by
    show (match cvA false env (.d x), cvAs (xs.map fun _ => false) (xs.map .d) env with | some g, some gs => some (g :: gs) | _, _ => none) = _
    rw [cvd env xs]
    rfl
theorem setIo_d (env : Env) : ∀ (xs : List Dt) (ios : List A), setIo env (xs.map fun x => (⟨.d x, none, none⟩ : Ag)) ios = env
  | [], ios => by cases ios <;> rfl
  | x :: xs, [] => rfl
  | x :: xs, a :: ios => setIo_d env xs ios
theorem setIo_1 (env : Env) (i : Nat) (o : Ow) (a : A) (xs : List Dt) (ios : List A) : setIo env (⟨.io o, some i, none⟩ :: xs.map fun x => ⟨.d x, none, none⟩) (a :: ios) = setOw env i a := setIo_d (setOw env i a) xs ios
end Tw

namespace Tw
open PySem PySem.Spec PyProof.Rows L2
/-! ### a reader of a text -/
def ch (c : Nat) : Str := ⟨#[c]⟩
/-- the next sign -/
def pk (t : Str) (k : Nat) : Str := cutS t (some (k : Int)) (some ((k : Int) + 1))
/-! ### names -/
end Tw

namespace Tw
open PySem PySem.Spec PyProof.Rows L2
/-! ### one of some words -/
end Tw

namespace Tw
open PySem PySem.Spec PyProof.Rows L2
/-! ### the texts of scripts, sign by sign -/
/-! ### deeds as rows of words -/
end Tw

namespace Tw
open PySem PySem.Spec PyProof.Rows L2
/-! ### the program's reader of scripts -/
end Tw

namespace Tw
open PySem PySem.Spec PyProof.Rows L2
theorem append_at {env : Env} {i : Nat} {F : List Dt} {M : ME} {x : Dt} (hi : env[i]? = some (some (.own (.l F)))) (hM : ∀ te, M env te = .ok (.d x) env) (hz : F.length < sizeLine) (hn : inE (isNest i) env = false) : mDrop (mMeth appA (mVar i) (mCons M mNil)) env [] = .nx (env.set i (some (.own (.l (F ++ [x]))))) := by
  simp! [hi, hM, hz, hn]
end Tw

namespace Tw
open PySem PySem.Spec PyProof.Rows L2
end Tw

namespace Tw
open PySem PySem.Spec PyProof.Rows L2
/-! ### the law's judge of texts of scripts -/
end Tw

namespace Tw
open PySem PySem.Spec PyProof.Rows L2
/-! ### calls that change a thing which they are handed -/
theorem call_io1 {F : DF} {ms : MA} {env : Env} {te : List A} {i : Nat} {o : Ow} {xs : List Dt} {r a : A} {ios : List A} (h : owAt env i = some o) (hs : Evs ms env xs) (hn : anyC (isNest i) env te = false) (hF : F (.io o :: xs.map .d) = .ok r (a :: ios)) :
    mCall F (true :: xs.map fun _ => false) (mCons (mVar i) ms) env te = .ok r (setOw env i a) := by
  have e : mCons (mVar i) ms env te = .ok (.rf i none :: xs.map .d) env := by
    rw [ev_mCons, mVar_ob h, zq00, ek_mCons_0, hs, zq00]
    rfl
  have io0 : ioS (xs.map fun x => (⟨.d x, none, none⟩ : Ag)) = [] := by
    unfold ioS
    rw [List.filterMap_map]
    exact List.filterMap_eq_nil_iff.mpr fun _ _ => rfl
  have br0 : brS (xs.map fun x => (⟨.d x, none, none⟩ : Ag)) = [] := by
    unfold brS
    rw [List.filterMap_map]
    exact List.filterMap_eq_nil_iff.mpr fun _ _ => rfl
  rw [ev_mCall, e, zq00]
  have cv : cvAs (true :: xs.map fun _ => false) (.rf i none :: xs.map .d) env = some (⟨.io o, some i, none⟩ :: xs.map fun x => ⟨.d x, none, none⟩) := by
    show (match cvA true env (.rf i none), cvAs (xs.map fun _ => false) (xs.map .d) env with | some g, some gs => some (g :: gs) | _, _ => none) = _
    rw [cvd env xs]
    show (match (match owAt env i with | some o => some (⟨.io o, some i, none⟩ : Ag) | none => none), some (xs.map fun x => (⟨.d x, none, none⟩ : Ag)) with | some g, some gs => some (g :: gs) | _, _ => none) = _
    rw [h]
  simp only [ek_mCall_0]
  rw [cv]
  show doCall F env te _ = _
  have i1 : ioS ((⟨.io o, some i, none⟩ : Ag) :: xs.map fun x => ⟨.d x, none, none⟩) = [i] := by
    unfold ioS at io0 ⊢
    rw [List.filterMap_cons]
    simp only [io0]
  have b1 : brS ((⟨.io o, some i, none⟩ : Ag) :: xs.map fun x => ⟨.d x, none, none⟩) = [] := by
    unfold brS at br0 ⊢
    rw [List.filterMap_cons]
    simp only [br0]
  have ao : agOk env te ((⟨.io o, some i, none⟩ : Ag) :: xs.map fun x => ⟨.d x, none, none⟩) = true := by
    unfold agOk
    rw [i1, b1]
    simp [hn]
  have am : (((⟨.io o, some i, none⟩ : Ag) :: xs.map fun x => ⟨.d x, none, none⟩).map (·.a)) = .io o :: xs.map .d := by
    rw [List.map_cons, List.map_map]
    rfl
  unfold doCall
  rw [if_pos ao, am, b1, hF]
  refine (if_pos (.inl rfl)).trans ?_
  rw [setIo_1]
theorem noX_ok' {F : DF} {as : List A} {r : A} {ios : List A} (h : F as = .ok r ios) : noXf F as = .ok r ios := by
  unfold noXf
  rw [h]
  rfl
section
variable {env : Env} {te : List A} {i : Nat} {g m c : Int}
theorem drw {ms : MA} {N : Int} (h : owAt env i = some (Dkv g m c)) (hs : Evs ms env [.int N]) (hn : anyC (isNest i) env te = false) (h0 : 0 < N) (h1 : N < 1073741824) : ∃ r g' c' : Int, 0 ≤ r ∧ r < N ∧ mCall (noXf f_drawL) [true, false] (mCons (mVar i) ms) env te = .ok (.d (.int r)) (setOw env i (.io (Dkv g' m c'))) := by
  obtain ⟨r, g', c', q, r0, r1⟩ := draw_ok g m c N h0 h1
  exact ⟨r, g', c', r0, r1, call_io1 (xs := [.int N]) h hs hn (noX_ok' q)⟩
end
/-! ### lengths of joined texts -/
end Tw

namespace Tw
open PySem PySem.Spec PyProof.Rows L2
/-! ### a drawn sign, a spoilt text -/
end Tw

namespace Tw
open PySem PySem.Spec PyProof.Rows L2
/-! ### a text with one item more, less or other -/
section
variable {g m c a way : Int} {t : Str} {L : List Dt} {W : List Str}
theorem sl_to {n : Nat} {env : Env} {i : Nat} {te : List A} {W : List Str} {mh : ME} (h : env[i]? = some (some (.own (.l (W.map .str))))) (hh : Ev mh env (.int (n : Nat))) : mSl (mVar i) mNoPart (mPart mh) env te = .ok (.own (.l ((W.take n).map .str))) env := by
  have e : cutD (W.map PyData.str) none (some (n : Int)) = (W.take n).map .str := by rw [cutD_to, List.map_take]
  rw [ev_mSl, mVar_ob (o := .l (W.map .str)) (by unfold owAt; rw [h]), zq00, ek_mSl_0]
  simp only [ev_mNoPart, zq00, ek_mSl_1]
  rw [ev_mPart, hh]
  have e2 : (A.rf i none).lst? env = some (W.map .str) := by
    show (owAt env i).bind Ow.lst? = _
    unfold owAt
    rw [h]
    rfl
  show (match (A.rf i none).lst? env with | some xs => Rs.ok (A.own (.l (cutD xs none (some (n : Int))))) env | none => .bad) = _
  rw [e2]
  show Rs.ok (A.own (.l (cutD _ _ _))) env = _
  rw [e]
theorem sl_fr {n : Nat} {env : Env} {i : Nat} {te : List A} {W : List Str} {mh : ME} (h : env[i]? = some (some (.own (.l (W.map .str))))) (hh : Ev mh env (.int (n : Nat))) : mSl (mVar i) (mPart mh) mNoPart env te = .ok (.own (.l ((W.drop n).map .str))) env := by
  have e : cutD (W.map PyData.str) (some (n : Int)) none = (W.drop n).map .str := by rw [cutD_from, List.map_drop]
  rw [ev_mSl, mVar_ob (o := .l (W.map .str)) (by unfold owAt; rw [h]), zq00, ek_mSl_0, ev_mPart, hh]
  have e2 : (A.rf i none).lst? env = some (W.map .str) := by
    show (owAt env i).bind Ow.lst? = _
    unfold owAt
    rw [h]
    rfl
  show (match (A.rf i none).lst? env with | some xs => Rs.ok (A.own (.l (cutD xs (some (n : Int)) none))) env | none => .bad) = _
  rw [e2]
  show Rs.ok (A.own (.l (cutD _ _ _))) env = _
  rw [e]
end
end Tw

namespace Tw
open PySem PySem.Spec PyProof.Rows L2
/-! ### drawn scripts, and a text read back -/
end Tw

namespace Tw
open PySem PySem.Spec PyProof.Rows L2
/-! ### instances of Script that are called -/
end Tw

namespace Tw
open PySem PySem.Spec PyProof.Rows L2
/-! ### woods within the limits -/
end Tw

namespace Tw
open PySem PySem.Spec PyProof.Rows L2
/-! ### what a Script tells of itself -/
end Tw

namespace Tw
open PySem PySem.Spec PyProof.Rows L2
/-! ### a new garden -/
end Tw

namespace Tw
open PySem PySem.Spec PyProof.Rows L2
end Tw

namespace Tw
open PySem PySem.Spec PyProof.Rows L2
/-! ### texts of woods -/
/-! ### the text of a wood -/
end Tw

namespace Tw
open PySem PySem.Spec PyProof.Rows L2
abbrev zs (Z : List (Wd × Str)) : List Dt := Z.map fun p => PyData.str p.2
end Tw

namespace Tw
open PySem PySem.Spec PyProof.Rows L2
end Tw

namespace Tw
open PySem PySem.Spec PyProof.Rows L2
/-! ### the law's reader of a right text -/
end Tw

namespace Tw
open PySem PySem.Spec PyProof.Rows L2
/-! ### texts of wishes -/
end Tw

namespace Tw
open PySem PySem.Spec PyProof.Rows L2
end Tw

namespace Tw
open PySem PySem.Spec PyProof.Rows L2
end Tw

namespace Tw
open PySem PySem.Spec PyProof.Rows L2
end Tw

namespace Tw
open PySem PySem.Spec PyProof.Rows L2
/-! ### right texts of woods -/
/-! ### the text of a wood, by the law -/
end Tw

namespace Tw
open PySem PySem.Spec PyProof.Rows L2
/-! ### the text of a wood, by the program -/
end Tw

namespace Tw
open PySem PySem.Spec PyProof.Rows L2
end Tw

namespace Tw
open PySem PySem.Spec PyProof.Rows L2
/-! ### the texts of wishes and of scripts -/
end Tw

namespace Tw
open PySem PySem.Spec PyProof.Rows L2
/-! ### right texts of scripts -/
end Tw

namespace Tw
open PySem PySem.Spec PyProof.Rows L2
end Tw

namespace Tw
open PySem PySem.Spec PyProof.Rows L2
end Tw

namespace Tw
open PySem PySem.Spec PyProof.Rows L2
end Tw

namespace Tw
open PySem PySem.Spec PyProof.Rows L2
/-! ### the law's reader of a right text of a wish -/
end Tw

namespace Tw
open PySem PySem.Spec PyProof.Rows L2
/-! ### envs in which something has been handed over -/
def plI : Env → Bool
  | [] => true
  | none :: e => plI e
  | some (.d _) :: e => plI e
  | some (.own _) :: e => plI e
  | some (.sc _) :: e => plI e
  | some (.io _) :: e => plI e
  | _ :: _ => false
theorem plI_rf : ∀ {env : Env}, plI env = true → ∀ i, inE (isRf i) env = false
  | [], _, i => rfl
  | none :: e, h, i => by rw [inE_cons, cB_none, plI_rf (env := e) h]; rfl
  | some (.d x) :: e, h, i => by rw [inE_cons, cB_some, plI_rf (env := e) h]; rfl
  | some (.own x) :: e, h, i => by rw [inE_cons, cB_some, plI_rf (env := e) h]; rfl
  | some (.sc x) :: e, h, i => by rw [inE_cons, cB_some, plI_rf (env := e) h]; rfl
  | some (.io x) :: e, h, i => by rw [inE_cons, cB_some, plI_rf (env := e) h]; rfl
theorem gN_pI {env : Env} {i : Nat} {a : A} {te : List A} (hd : plI env = true) (hi : i < env.length) (ho : nIo env[i]? = true) (ht : te.any (isRf i) = false) (ha : (∃ x, a = .d x) ∨ (∃ o, a = .own o)) : gN i a env te = some (env.set i (some a)) := by
  refine if_pos ?_
  rw [ev_setOk, ho]
  unfold anyC
  rw [plI_rf hd, List.any_cons, ht]
  rcases ha with ⟨x, rfl⟩ | ⟨x, rfl⟩ <;> simp [hi, isRf, isIo]
theorem Asg.pI {m : ME} {env : Env} {i : Nat} {a : A} {te : List A} (h : m env te = .ok a env) (hd : plI env = true) (hi : i < env.length) (ho : nIo env[i]? = true) (ht : te.any (isRf i) = false) (ha : (∃ x, a = .d x) ∨ (∃ o, a = .own o)) : mAsg m (gN i) env te = .nx (env.set i (some a)) := by
  rw [ev_mAsg, h, zq01]
  show (match gN i a env te with | some e' => Fl.nx e' | none => .bad) = _
  rw [gN_pI hd hi ho ht ha]
theorem par_ow {M1 M2 : ME} {i j : Nat} {env : Env} {o1 o2 : Ow} (h1 : M1 env [] = .ok (.own o1) env) (h2 : M2 env [.own o1] = .ok (.own o2) env) (p2 : plB env = true) (p3 : plB (env.set j (some (.own o2))) = true) (hi : i < env.length) (hj : j < env.length) : mPar i j (mCons M1 (mCons M2 mNil)) env [] = .nx ((env.set j (some (.own o2))).set i (some (.own o1))) := by
  have c : mCons M1 (mCons M2 mNil) env [] = .ok [.own o1, .own o2] env := by
    rw [ev_mCons, h1, zq00, ek_mCons_0, ev_mCons, h2, zq00, ek_mCons_0]
    rfl
  have g1 : gN j (.own o2) env [.own o1] = some (env.set j (some (.own o2))) := gN_pl p2 hj rfl (.inr ⟨_, rfl⟩)
  have g2 : gN i (.own o1) (env.set j (some (.own o2))) [] = some ((env.set j (some (.own o2))).set i (some (.own o1))) := gN_pl p3 (by rw [List.length_set]; exact hi) rfl (.inr ⟨_, rfl⟩)
  show (mCons M1 (mCons M2 mNil) env []).fl _ = _
  rw [c, zq01]
  show (match gN j (.own o2) env [.own o1] with | some e1 => (match gN i (.own o1) e1 [] with | some e2 => Fl.nx e2 | none => .bad) | none => .bad) = _
  rw [g1]
  show (match gN i (.own o1) (env.set j (some (.own o2))) [] with | some e2 => Fl.nx e2 | none => .bad) = _
  rw [g2]
/-! ### parents, places, the names that stay -/
def kO : Option Str → Dt
  | none => .none
  | some s => .str s
def kL : Option Str → Leaf
  | none => .none
  | some s => .text s
theorem lf_kO (p : Option Str) : lfD (kO p) = some (kL p) := by cases p <;> rfl
theorem kL_inj {p q : Option Str} (h : kL p = kL q) : p = q := by
  cases p <;> cases q <;> first | rfl | (cases h; rfl) | cases h
theorem eq_kO (p q : Option Str) : eqD (kO p) (kO q) = some (.bool (decide (p = q))) := by
  cases p with
  | none => cases q <;> rfl
  | some s =>
    cases q with
    | none => rfl
    | some t =>
      show eqD (.str s) (.str t) = _
      rw [eqD_str]
      by_cases e : s = t
      · subst e; rw [decide_eq_true rfl, decide_eq_true rfl]
      · rw [decide_eq_false e, decide_eq_false fun z => e (Option.some.inj z)]
def parO (p : Option Str) : Wd → List (Str × Option Str)
  | .nil => []
  | .cons n i r => (n, p) :: (parO (some n) i ++ parO p r)
theorem parO_D : ∀ (p : Option Str) (w : Wd), parsD (kO p) w = (parO p w).map fun x => (x.1, kO x.2)
  | _, .nil => rfl
  | p, .cons n i r => by
    show (n, kO p) :: (parsD (kO (some n)) i ++ parsD (kO p) r) = _
    rw [parO_D, parO_D, parO, List.map_cons, List.map_append]
theorem parO_names : ∀ (p : Option Str) (w : Wd), (parO p w).map (·.1) = w.names
  | _, .nil => rfl
  | p, .cons n i r => by
    show n :: (parO (some n) i ++ parO p r).map (·.1) = n :: (i.names ++ r.names)
    rw [List.map_append, parO_names, parO_names]
/-- the parent of a name -/
def prO (w : Wd) (n : Str) : Option Str := ((parO none w).lookup n).getD none
theorem lookup_mem {β : Type} : ∀ {l : List (Str × β)} {n : Str}, n ∈ l.map (·.1) → ∃ p, l.lookup n = some p ∧ (n, p) ∈ l
  | q :: l, n, h => by
    by_cases e : n = q.1
    · exact ⟨q.2, by rw [List.lookup_cons, e]; simp, by rw [e]; exact List.mem_cons_self⟩
    · rw [List.map_cons, List.mem_cons] at h
      obtain ⟨p, h1, h2⟩ := lookup_mem (h.resolve_left e)
      exact ⟨p, by rw [List.lookup_cons, show (n == q.1) = false from by simpa using e]; exact h1, List.mem_cons_of_mem _ h2⟩
theorem prO_mem {w : Wd} {n : Str} (h : n ∈ w.names) : (n, prO w n) ∈ parO none w := by
  obtain ⟨p, h1, h2⟩ := lookup_mem (l := parO none w) (n := n) (by rw [parO_names]; exact h)
  unfold prO
  rw [h1]
  exact h2
theorem prO_D {w : Wd} {n : Str} (h : n ∈ w.names) : (n, kO (prO w n)) ∈ parsD .none w := by
  rw [show parsD .none w = parsD (kO none) w from rfl, parO_D]
  exact List.mem_map.mpr ⟨_, prO_mem h, rfl⟩
/-- the names that have one parent in both woods -/
def styL (w v : Wd) : List (Str × Option Str) := (w.names.filter fun n => decide (prO w n = prO v n)).map fun n => (n, prO w n)
def styD (x : Str × Option Str) : Dt := .tuple [.str x.1, kO x.2]
def plaD (k : Nat) (ns : List Str) : List (Key × Dt) := (ns.zipIdx k).map fun p => (.inr p.1, .int (p.2 : Nat))
theorem putD_new {kvs : List (Key × Dt)} {k : Key} {x : Dt} (h : k ∉ kvs.map (·.1)) : putD kvs k x = kvs ++ [(k, x)] := by
  unfold putD
  rw [if_neg]
  intro z
  obtain ⟨q, hq, e⟩ := List.any_eq_true.mp z
  exact h (List.mem_map.mpr ⟨q, hq, of_decide_eq_true e⟩)
theorem dc_places {D : Dt} {te : List A} {rd : Env → Option (List Dt)} {xs0 : List Dt} (hr : rd [some (.d D), none, none] = some xs0) (t1 : te.any (isRf 1) = false) (t2 : te.any (isRf 2) = false) : ∀ (ns : List Str) (k : Nat) (acc : List (Key × Dt)), (acc.map (fun q : Key × Dt => q.1) ++ ns.map (fun n => (Sum.inr n : Key))).Nodup → acc.length + ns.length ≤ 100000 →
    dcM kdQ rd xs0 te (gT [1, 2]) mYes (mD (mVar 2)) (mD (mVar 1)) [1, 2] ((ns.zipIdx k).map fun p => PyData.tuple [.int (p.2 : Nat), .str p.1]) acc [some (.d D), none, none] = .ok (acc ++ plaD k ns) [some (.d D), none, none]
  | [], k, acc, _, _ => by
    show dcM kdQ rd xs0 te (gT [1, 2]) mYes (mD (mVar 2)) (mD (mVar 1)) [1, 2] [] acc [some (.d D), none, none] = _
    unfold dcM
    rw [if_pos hr]
    show Rs.ok acc _ = Rs.ok (acc ++ []) _
    rw [List.append_nil]
  | n :: ns, k, acc, nd, hl => by
    rw [List.zipIdx_cons, List.map_cons]
    unfold dcM
    rw [if_pos hr]
    have g : gT [1, 2] (kdQ (.tuple [.int (k : Nat), .str n])) [some (.d D), none, none] (.own (.dc acc) :: te) = some [some (.d D), some (.d (.int (k : Nat))), some (.d (.str n))] := by
      simp! [kdQ, t1, t2, isRf, anyC, inE]
    have hz : acc.length < sizeLine := big' (by rw [List.length_cons] at hl; omega)
    have nk : (.inr n : Key) ∉ acc.map (·.1) := fun z => by
      rw [List.map_cons, List.nodup_append] at nd
      exact nd.2.2 _ z _ List.mem_cons_self rfl
    have ih := dc_places hr t1 t2 ns (k + 1) (acc ++ [(.inr n, .int (k : Nat))]) (by rw [List.map_append, List.append_assoc]; exact nd) (by rw [List.length_append]; rw [List.length_cons] at hl; simp only [List.length_cons, List.length_nil]; omega)
    have w1 : wipeOk [some (.d D), some (.d (.int (k : Nat))), some (.d (.str n))] (.own (.dc (putD acc (.inr n) (.int (k : Nat)))) :: te) [1, 2] = true := by
      simp [wipeOk, wipeE, t1, t2, isRf, anyC, inE]
    dsimp only
    rw [g]
    simp! only [Rs.noX, zq00, List.getElem?_cons_succ, List.getElem?_cons_zero, keyD, if_true]
    rw [if_pos ⟨hz, w1⟩, putD_new nk]
    show dcM kdQ rd xs0 te (gT [1, 2]) mYes (mD (mVar 2)) (mD (mVar 1)) [1, 2] ((ns.zipIdx (k + 1)).map _) (acc ++ [(.inr n, .int (k : Nat))]) [some (.d D), none, none] = _
    rw [ih, List.append_assoc]
    unfold plaD
    rw [List.zipIdx_cons, List.map_cons]
    rfl
theorem places_fn (w : Wd) (hs : w.size ≤ 10000) (hnm : ∀ z ∈ w.names, IsNm z) (nd : w.names.Nodup) : f_places [.d (.tuple w.data)] = .ok (.own (.dc (plaD 0 w.names))) [.d (.tuple w.data)] := by
  suffices h : DOk (fun r ios => r = .own (.dc (plaD 0 w.names)) ∧ ios = [.d (.tuple w.data)]) (f_places [.d (.tuple w.data)]) by
    obtain ⟨a, ios, e, rfl, rfl⟩ := h.ex
    exact e
  unfold f_places
  refine run_ok ?_
  unfold m_places
  have q := names_of_ok w hs hnm
  generalize f_names_of = FN at q ⊢
  refine FP.ret (a := .own (.dc (plaD 0 w.names))) (e := [some (.d (.tuple w.data)), none, none]) ?_ ⟨_, rfl, rfl, rfl⟩
  have hm : mEnT (mCall (noXf FN) [false] (mCons (mVar 0) mNil)) [some (.d (.tuple w.data)), none, none] [] = .ok ([.d (.tuple (w.names.map .str))], fun _ => some (enumD (w.names.map .str))) [some (.d (.tuple w.data)), none, none] := by
    show Rs.bind (mCall (noXf FN) [false] (mCons (mVar 0) mNil) _ _) _ = _
    have cm : mCall (noXf FN) [false] (mCons (mVar 0) mNil) [some (.d (.tuple w.data)), none, none] [] = .ok (.d (.tuple (w.names.map .str))) [some (.d (.tuple w.data)), none, none] := Ev.call (xs := [.tuple w.data]) (Evs.cons (Ev.v rfl) Evs.nil) rfl q []
    rw [cm]
    rfl
  show Rs.bind (mEnT (mCall (noXf FN) [false] (mCons (mVar 0) mNil)) [some (.d (.tuple w.data)), none, none] []) _ = _
  rw [hm, zq00]
  have en : enumD (w.names.map .str) = (w.names.zipIdx 0).map fun p => PyData.tuple [.int (p.2 : Nat), .str p.1] := by
    unfold enumD
    rw [List.zipIdx_map, List.map_map]
    rfl
  have ls : w.names.length ≤ 10000 := by rw [Wd.size_names]; exact hs
  have dc := dc_places (D := .tuple w.data) (te := [.d (.tuple (w.names.map .str))]) (rd := fun _ => some (enumD (w.names.map .str))) (xs0 := enumD (w.names.map .str)) rfl rfl rfl w.names 0 [] (by
    rw [List.map_nil, List.nil_append]
    exact List.pairwise_map.mpr (nd.imp fun h e => h (Sum.inr.inj e))) (by rw [List.length_nil]; omega)
  rw [← en, List.nil_append] at dc
  show Rs.bind (dcM kdQ (fun _ => some (enumD (w.names.map .str))) (enumD (w.names.map .str)) [.d (.tuple (w.names.map .str))] (gT [1, 2]) mYes (mD (mVar 2)) (mD (mVar 1)) [1, 2] (enumD (w.names.map .str)) [] [some (.d (.tuple w.data)), none, none]) _ = _
  rw [dc]
  rfl
theorem plaD_lk : ∀ (ns : List Str) (k : Nat) (z : Str), z ∈ ns → lkD (plaD k ns) (.inr z) = some (.int ((k + ns.idxOf z : Nat)))
  | n :: ns, k, z, h => by
    unfold lkD plaD
    rw [List.zipIdx_cons, List.map_cons, List.find?_cons]
    by_cases e : n = z
    · subst e
      rw [decide_eq_true rfl]
      simp
    · have e1 : decide ((Sum.inr n : Key) = Sum.inr z) = false := decide_eq_false fun y => e (Sum.inr.inj y)
      rw [show decide (((.inr (n, k).1 : Key), PyData.int ((n, k).2 : Nat)).1 = .inr z) = false from e1]
      have ih := plaD_lk ns (k + 1) z ((List.mem_cons.mp h).resolve_left fun y => e y.symm)
      have e2 : ((n :: ns).idxOf z) = ns.idxOf z + 1 := by rw [List.idxOf_cons, show (n == z) = false from by simpa using e]; rfl
      rw [e2, show k + (ns.idxOf z + 1) = k + 1 + ns.idxOf z by omega]
      exact ih
theorem prO_lk {w : Wd} {kvs : List (Key × Dt)} (h : ∀ x ∈ parsD .none w, lkD kvs (.inr x.1) = some x.2) {n : Str} (hn : n ∈ w.names) : lkD kvs (.inr n) = some (kO (prO w n)) := h _ (prO_D hn)
theorem staying_fn (w v : Wd) (hw : w.size ≤ 10000) (hv : v.size ≤ 10000) (nw : ∀ z ∈ w.names, IsNm z) (nd : w.names.Nodup) (vd : v.names.Nodup) (hp : ∀ n ∈ w.names, n ∈ v.names) :
    f_staying [.d (.tuple w.data), .d (.tuple v.data)] = .ok (.own (.l ((styL w v).map styD))) [.d (.tuple w.data), .d (.tuple v.data)] := by
  suffices h : DOk (fun r ios => r = .own (.l ((styL w v).map styD)) ∧ ios = [.d (.tuple w.data), .d (.tuple v.data)]) (f_staying [.d (.tuple w.data), .d (.tuple v.data)]) by
    obtain ⟨a, ios, e, rfl, rfl⟩ := h.ex
    exact e
  unfold f_staying
  refine run_ok ?_
  unfold m_staying
  obtain ⟨k1, h1, q1⟩ := parents_ok w hw nd
  obtain ⟨k2, h2, q2⟩ := parents_ok v hv vd
  have q := names_of_ok w hw nw
  generalize f_names_of = FN at q ⊢
  generalize f_all_parents = FP' at q1 q2 ⊢
  have c1 : ∀ te, mCall (noXf FP') [false] (mCons (mVar 0) mNil) [some (.d (.tuple w.data)), some (.d (.tuple v.data)), none, none, none] te = .ok (.own (.dc k1)) [some (.d (.tuple w.data)), some (.d (.tuple v.data)), none, none, none] := fun te =>
    call_own (xs := [.tuple w.data]) (Evs.cons (Ev.v rfl) Evs.nil) rfl q1
  have c2 : ∀ te, mCall (noXf FP') [false] (mCons (mVar 1) mNil) [some (.d (.tuple w.data)), some (.d (.tuple v.data)), none, none, none] te = .ok (.own (.dc k2)) [some (.d (.tuple w.data)), some (.d (.tuple v.data)), none, none, none] := fun te =>
    call_own (xs := [.tuple v.data]) (Evs.cons (Ev.v rfl) Evs.nil) rfl q2
  refine FP.st (e := [some (.d (.tuple w.data)), some (.d (.tuple v.data)), some (.own (.dc k1)), some (.own (.dc k2)), none]) (par_ow (c1 _) (c2 _) rfl rfl (by decide : 2 < 5) (by decide : 3 < 5)) ?_
  have ls : w.names.length ≤ 10000 := by rw [Wd.size_names]; exact hw
  have lc := lc_al (α := Str) (mi := mSeqI (mD (mCall (noXf FN) [false] (mCons (mVar 0) mNil)))) (tt := mTst (mOp (fl2 eqD) (mOp dgA (mVar 2) (mVar 4)) (mOp dgA (mVar 3) (mVar 4)))) (el := mTup (mCons (mD (mVar 4)) (mCons (mD (mOp dgA (mVar 2) (mVar 4))) mNil))) (j := 4)
    (env := [some (.d (.tuple w.data)), some (.d (.tuple v.data)), some (.own (.dc k1)), some (.own (.dc k2)), none]) (te := []) (as := [.d (.tuple (w.names.map .str))]) (rd := fun _ => some (w.names.map .str)) w.names .str (fun n => decide (prO w n = prO v n)) (fun n => styD (n, prO w n))
    (seqI_ev (Ev.d (Ev.call (xs := [.tuple w.data]) (Evs.cons (Ev.v rfl) Evs.nil) rfl q))) rfl rfl rfl (by omega)
    (fun n hn acc => (Ev.eq (Ev.dgO (i := 2) rfl (Ev.v (i := 4) rfl) (prO_lk h1 hn)) (Ev.dgO (i := 3) rfl (Ev.v (i := 4) rfl) (prO_lk h2 (hp n hn))) (eq_kO _ _)).tst _)
    (fun n hn _ acc => Ev.tup (Evs.two (Ev.d (Ev.v (i := 4) rfl)) (Ev.d (Ev.dgO (i := 2) rfl (Ev.v (i := 4) rfl) (prO_lk h1 hn)))) (Nat.le_of_ble_eq_true rfl) _)
  have e : (w.names.filter fun n => decide (prO w n = prO v n)).map (fun n => styD (n, prO w n)) = (styL w v).map styD := by
    unfold styL
    rw [List.map_map]
    rfl
  rw [e] at lc
  exact FP.ret lc ⟨_, rfl, rfl, rfl⟩
end Tw

namespace Tw
open PySem PySem.Spec PyProof.Rows L2
/-! ### lengths -/
theorem fp_lend {N : Env → Prop} {R : A → Env → Prop} {i j : Nat} {mk mx : ME} {m : MS} {env : Env} {te : List A} {kx : Dt} {k : Leaf} {kvs : List (Leaf × List Dt)} {xs : List Dt} (hi : env[i]? = some (some (.own (.x (.dnl kvs))))) (hj : env[j]? = some none) (hk : ∀ te, mk env te = .ok (.d kx) env) (hl : lfD kx = some k) (hx : ∀ te, mx env te = .ok (.own (.l [])) env)
    (hz : kvs.length < sizeLine) (ri : anyC (isRf i) env te = false) (rj : anyC (isRf j) env te = false) (ti : te.any isIo = false) (hxs : lkL (defL kvs k) k = some xs)
    (h : FP (fun e3 => ∃ ys, e3[i]? = some (some (.io (.x .lam))) ∧ e3[j]? = some (some (.io (.l ys))) ∧ anyC (isRf i) e3 te = false ∧ anyC (isRf j) e3 te = false ∧ onlyIo (env.set i (some (.own (.x (.dnl (defL kvs k)))))) e3 i j = true ∧ anyC isLk e3 te = false ∧ N ((e3.set i (some (.own (.x (.dnl (setL (defL kvs k) k ys)))))).set j none)) (fun _ _ => False)
      (m (lendE (env.set i (some (.own (.x (.dnl (defL kvs k)))))) i j xs) te)) : FP N R (mLend i j mk mx m env te) := by
  have hv : ∀ te, mVar i env te = .ok (.rf i none) env := fun te => by unfold mVar; rw [hi]; rfl
  have ha : dnlAt env (.rf i none) = some (i, kvs) := by unfold dnlAt; have ho : owAt env i = some (.x (.dnl kvs)) := by unfold owAt; rw [hi]
                                                         simp only [ho]
  have e : mLend i j mk mx m env te = lendB (env.set i (some (.own (.x (.dnl (defL kvs k)))))) te i j (defL kvs k) k m := by
    unfold mLend
    rw [hv, zq01, ha]
    simp only [Option.isSome_some, if_true]
    rw [hk, zq01, hx, zq01]
    unfold lendA
    rw [ha]
    have hb : ((A.d kx).val env).bind lfD = some k := hl
    rw [hb, hi, hj]
    simp only
    rw [if_pos ⟨trivial, hz, ri, rj, ti⟩]
  rw [e]
  unfold lendB
  rw [hxs]
  simp only
  cases q : m (lendE (env.set i (some (.own (.x (.dnl (defL kvs k)))))) i j xs) te with
  | nx e3 =>
    rw [q, fp_nx] at h
    obtain ⟨ys, h1, h2, h3, h4, h5, h6, h7⟩ := h
    simp only [h1, h2]
    rw [if_pos ⟨h3, h4, h5, h6⟩]
    exact .nx h7
  | rt a e3 => rw [q, fp_rt] at h; exact h.elim
  | bk e3 => rw [q] at h; cases h
  | ct e3 => rw [q] at h; cases h
  | ex x e3 => rw [q] at h; cases h
  | bad => rw [q] at h; cases h
theorem lkL_def (kvs : List (Leaf × List Dt)) (k : Leaf) : lkL (defL kvs k) k = some ((lkL kvs k).getD []) := by
  unfold defL
  cases h : lkL kvs k with
  | some xs => rw [h]; rfl
  | none =>
    unfold lkL at h ⊢
    rw [Option.map_eq_none_iff] at h
    rw [List.find?_append, h]
    simp
theorem lkL_def_ne {kvs : List (Leaf × List Dt)} {k k' : Leaf} (n : k' ≠ k) : lkL (defL kvs k) k' = lkL kvs k' := by
  unfold defL
  cases h : lkL kvs k with
  | some xs => rfl
  | none =>
    unfold lkL
    dsimp only
    rw [List.find?_append]
    cases kvs.find? (fun q => decide (q.1 = k')) with
    | some q => rfl
    | none =>
      rw [show ([(k, [])] : List (Leaf × List Dt)).find? (fun q => decide (q.1 = k')) = none from by
        rw [List.find?_cons, show decide ((k, ([] : List Dt)).1 = k') = false from decide_eq_false fun e => n e.symm]; rfl]
      rfl
theorem lkL_set : ∀ (kvs : List (Leaf × List Dt)) (k k' : Leaf) (ys : List Dt), lkL (setL kvs k ys) k' = if k' = k then (lkL kvs k).map fun _ => ys else lkL kvs k'
  | [], k, k', ys => by
    show (none : Option (List Dt)) = if k' = k then none else none
    split <;> rfl
  | q :: kvs, k, k', ys => by
    have ih := lkL_set kvs k k' ys
    unfold lkL setL at ih ⊢
    rw [List.map_cons, List.find?_cons, List.find?_cons, List.find?_cons]
    by_cases c : q.1 = k
    · rw [if_pos c]
      by_cases c2 : k' = k
      · rw [if_pos c2] at ih ⊢
        rw [show decide ((q.1, ys).1 = k') = true from decide_eq_true (c.trans c2.symm), decide_eq_true c]
        rfl
      · rw [if_neg c2] at ih ⊢
        have c3 : q.1 ≠ k' := fun e => c2 (e.symm.trans c)
        rw [show decide ((q.1, ys).1 = k') = false from decide_eq_false c3]
        exact ih
    · rw [if_neg c]
      by_cases c2 : k' = k
      · rw [if_pos c2] at ih ⊢
        rw [show decide (q.1 = k') = false from decide_eq_false fun e => c (e.trans c2), decide_eq_false c]
        exact ih
      · rw [if_neg c2] at ih ⊢
        by_cases c3 : q.1 = k'
        · rw [decide_eq_true c3]
        · rw [decide_eq_false c3]; exact ih
theorem setL_len (kvs : List (Leaf × List Dt)) (k : Leaf) (ys : List Dt) : (setL kvs k ys).length = kvs.length := by unfold setL; rw [List.length_map]
theorem defL_len (kvs : List (Leaf × List Dt)) (k : Leaf) : (defL kvs k).length ≤ kvs.length + 1 := by
  unfold defL
  split
  · omega
  · rw [List.length_append]; exact Nat.le_refl _
/-- a name that stays, its parent, how long a row can end in it -/
abbrev LE := Str × Option Str × Nat
def bstA (ix : Str → Nat) (n : Str) (gs : List LE) (b : Nat) : Nat := gs.foldl (fun b e => if ix e.1 < ix n ∧ b < e.2.2 then e.2.2 else b) b
def grA (L : List LE) (p : Option Str) : List LE := L.filter fun e => decide (e.2.1 = p)
def lngA (ix : Str → Nat) : List LE → List (Str × Option Str) → List LE
  | acc, [] => acc
  | acc, x :: r => lngA ix (acc ++ [(x.1, x.2, bstA ix x.1 (grA acc x.2) 0 + 1)]) r
def fdD (L : List LE) : List (Key × Dt) := L.map fun e => (.inr e.1, .int (e.2.2 : Nat))
theorem fdD_lk : ∀ {L : List LE} {e : LE}, (L.map (·.1)).Nodup → e ∈ L → lkD (fdD L) (.inr e.1) = some (.int (e.2.2 : Nat))
  | q :: L, e, nd, h => by
    unfold lkD fdD
    rw [List.map_cons, List.find?_cons]
    rw [List.map_cons, List.nodup_cons] at nd
    rcases List.mem_cons.mp h with rfl | h
    · rw [show decide (((.inr e.1 : Key), PyData.int (e.2.2 : Nat)).1 = .inr e.1) = true from decide_eq_true rfl]
      rfl
    · have ne : q.1 ≠ e.1 := fun z => nd.1 (List.mem_map.mpr ⟨e, h, z.symm⟩)
      rw [show decide (((.inr q.1 : Key), PyData.int (q.2.2 : Nat)).1 = .inr e.1) = false from decide_eq_false fun z => ne (Sum.inr.inj z)]
      exact fdD_lk nd.2 h
theorem lngA_names (ix : Str → Nat) : ∀ (r : List (Str × Option Str)) (acc : List LE), (lngA ix acc r).map (fun e => (e.1, e.2.1)) = acc.map (fun e => (e.1, e.2.1)) ++ r
  | [], acc => (List.append_nil _).symm
  | x :: r, acc => by
    unfold lngA
    rw [lngA_names ix r, List.map_append, List.append_assoc]
    rfl
theorem wipeK_pI {i : Nat} {k : Key} : ∀ {e : Env}, plI e = true → wipeK i k e = e
  | [], _ => rfl
  | none :: e, h => congrArg (none :: ·) (wipeK_pI (e := e) h)
  | some (.d x) :: e, h => congrArg (some (A.d x) :: ·) (wipeK_pI (e := e) h)
  | some (.own x) :: e, h => congrArg (some (A.own x) :: ·) (wipeK_pI (e := e) h)
  | some (.sc x) :: e, h => congrArg (some (A.sc x) :: ·) (wipeK_pI (e := e) h)
  | some (.io x) :: e, h => congrArg (some (A.io x) :: ·) (wipeK_pI (e := e) h)
  | some (.rf _ _) :: e, h => nomatch h
theorem plI_nestK {i : Nat} {k : Key} : ∀ {e : Env}, plI e = true → inE (isNestK i k) e = false
  | [], _ => rfl
  | none :: e, h => plI_nestK (e := e) h
  | some (.d x) :: e, h => plI_nestK (e := e) h
  | some (.own x) :: e, h => plI_nestK (e := e) h
  | some (.sc x) :: e, h => plI_nestK (e := e) h
  | some (.io x) :: e, h => plI_nestK (e := e) h
  | some (.rf _ _) :: e, h => nomatch h
theorem dc_putI {i : Nat} {mv mk : ME} {env : Env} {te : List A} {s : Str} {kvs : List (Key × Dt)} {v : Dt} (pl : plI env = true) (hi : env[i]? = some (some (.own (.dc kvs)))) (hv : Ev mv env v) (hk : Ev mk env (.str s)) (ht : te.any (isNestK i (.inr s)) = false) (hz : kvs.length < sizeLine) : mPut mv (mVar i) mk env te = .nx (env.set i (some (.own (.dc (putD kvs (.inr s) v))))) := by
  have h2 : ∀ te, mVar i env te = .ok (.rf i none) env := fun te => by unfold mVar; rw [hi]; rfl
  unfold mPut
  rw [hv, zq01, h2, zq01, hk, zq01]
  have e : putA env te (.rf i none) (.d (.str s)) (.d v) = some (env.set i (some (.own (.dc (putD kvs (.inr s) v))))) := by
    show (match (wipeK i (.inr s) env)[i]?, owAt (wipeK i (.inr s) env) i with
      | some (some ca), some o => if anyC (isNestK i (.inr s)) (wipeK i (.inr s) env) te = false then (putO o (.inr s) (.d v)).map fun o' => (wipeK i (.inr s) env).set i (some (reOw ca o')) else none
      | _, _ => none) = _
    rw [wipeK_pI pl]
    have ho : owAt env i = some (.dc kvs) := by unfold owAt; rw [hi]
    rw [hi, ho]
    show (if anyC (isNestK i (.inr s)) env te = false then (putO (.dc kvs) (.inr s) (.d v)).map fun o' => env.set i (some (reOw (.own (.dc kvs)) o')) else none) = _
    have ha : anyC (isNestK i (.inr s)) env te = false := by
      unfold anyC
      rw [plI_nestK pl, ht]
      rfl
    rw [if_pos ha]
    show (if kvs.length < sizeLine then some (Ow.dc (putD kvs (.inr s) v)) else none).map (fun o' => env.set i (some (reOw (.own (.dc kvs)) o'))) = _
    rw [if_pos hz]
    rfl
  rw [e]
theorem append_io {env : Env} {i : Nat} {F : List Dt} {M : ME} {x : Dt} {te : List A} (hi : env[i]? = some (some (.io (.l F)))) (hM : ∀ te, M env te = .ok (.d x) env) (hz : F.length < sizeLine) (hn : inE (isNest i) env = false) (ht : te.any (isNest i) = false) : mDrop (mMeth appA (mVar i) (mCons M mNil)) env te = .nx (env.set i (some (.io (.l (F ++ [x]))))) := by
  simp! [hi, hM, hz, hn, ht]
/-- what lengths holds -/
def lgE (X Y : Dt) (T Fd : List (Key × Dt)) (G : List (Leaf × List Dt)) (n p b e : Option Dt) : Env := [some (.d X), some (.d Y), some (.own (.dc T)), some (.own (.dc Fd)), some (.own (.x (.dnl G))), od n, od p, none, od b, od e]
def liE (X Y : Dt) (T Fd : List (Key × Dt)) (n p : Dt) (xs : List Dt) (b e : Option Dt) : Env := [some (.d X), some (.d Y), some (.own (.dc T)), some (.own (.dc Fd)), some (.io (.x .lam)), some (.d n), some (.d p), some (.io (.l xs)), od b, od e]
theorem liE_pl (X Y : Dt) (T Fd : List (Key × Dt)) (n p : Dt) (xs : List Dt) (b e : Option Dt) : plI (liE X Y T Fd n p xs b e) = true := by cases b <;> cases e <;> rfl
def GrI (G : List (Leaf × List Dt)) (L : List LE) : Prop := G.length ≤ L.length ∧ ∀ p, (lkL G (kL p)).getD [] = (grA L p).map fun e => .str e.1
theorem GrI.add {G : List (Leaf × List Dt)} {L : List LE} (h : GrI G L) (n : Str) (p : Option Str) (k : Nat) : GrI (setL (defL G (kL p)) (kL p) ((grA L p).map (fun e => PyData.str e.1) ++ [.str n])) (L ++ [(n, p, k)]) := by
  refine ⟨?_, fun q => ?_⟩
  · rw [setL_len, List.length_append]
    have := defL_len G (kL p)
    have := h.1
    simp only [List.length_cons, List.length_nil]
    omega
  · rw [lkL_set]
    unfold grA
    rw [List.filter_append]
    by_cases e : q = p
    · subst e
      rw [if_pos rfl, lkL_def]
      simp
    · rw [if_neg (fun z => e (kL_inj z)), lkL_def_ne (fun z => e (kL_inj z)), h.2 q]
      unfold grA
      simp [Ne.symm e]
end Tw

namespace Tw
open PySem PySem.Spec PyProof.Rows L2
/-! ### lengths (2) -/
def ixW (v : Wd) (z : Str) : Nat := v.names.idxOf z
theorem ixW_lk {v : Wd} {z : Str} (h : z ∈ v.names) : lkD (plaD 0 v.names) (.inr z) = some (.int (ixW v z : Nat)) := by
  rw [plaD_lk _ 0 z h, Nat.zero_add]
  rfl
theorem bstA_snoc (ix : Str → Nat) (n : Str) (ds : List LE) (e : LE) (b : Nat) : bstA ix n (ds ++ [e]) b = if ix e.1 < ix n ∧ bstA ix n ds b < e.2.2 then e.2.2 else bstA ix n ds b := by
  unfold bstA
  rw [List.foldl_append]
  rfl
theorem mD_ownl {m : ME} {env : Env} {te : List A} {xs : List Dt} (h : m env te = .ok (.own (.l xs)) env) : mD m env te = .ok (.d (.list xs)) env := by
  show (m env te).bind _ = _
  rw [h, zq00]
  rfl
section
variable {X Y : Dt} {v : Wd} {L : List LE} {n : Str} {p : Option Str}
theorem inner_fn {te : List A} (vl : v.names.length ≤ 10000) (hL : (L.map (·.1)).Nodup) (hm : ∀ e ∈ L, e.1 ∈ v.names) (hn : n ∈ v.names) (hb : ∀ e ∈ L, e.2.2 ≤ 100000) (t8 : te.any (isRf 8) = false) (t9 : te.any (isRf 9) = false) {e0 : Option Dt} {N : Env → Prop} {R : A → Env → Prop}
    (k : ∀ e1, N (liE X Y (plaD 0 v.names) (fdD L) (.str n) (kO p) ((grA L p).map fun e => PyData.str e.1) (some (.int (bstA (ixW v) n (grA L p) 0 : Nat))) e1)) :
    FP N R (mFor .d (mSeqI (mVar 7)) (gN 9) (mIfS (mAnd (mTst (mOp (fl2 ltD) (mOp dgA (mVar 2) (mVar 9)) (mOp dgA (mVar 2) (mVar 5)))) (mTst (mOp (fl2 gtD) (mOp dgA (mVar 3) (mVar 9)) (mVar 8)))) (mAsg (mOp dgA (mVar 3) (mVar 9)) (gN 8)) mNext)
      (liE X Y (plaD 0 v.names) (fdD L) (.str n) (kO p) ((grA L p).map fun e => PyData.str e.1) (some (.int (0 : Nat))) e0) te) := by
  refine fp_for (as := [.rf 7 none]) (rd := fun env => (A.rf 7 none).seq? env) (xs := (grA L p).map fun e => PyData.str e.1) (e := liE X Y (plaD 0 v.names) (fdD L) (.str n) (kO p) ((grA L p).map fun e => PyData.str e.1) (some (.int (0 : Nat))) e0)
    (fun r e => ∃ ds rs e1, grA L p = ds ++ rs ∧ r = rs.map (fun e => PyData.str e.1) ∧ e = liE X Y (plaD 0 v.names) (fdD L) (.str n) (kO p) ((grA L p).map fun e => PyData.str e.1) (some (.int (bstA (ixW v) n ds 0 : Nat))) e1)
    (by cases e0 <;> rfl) ⟨[], grA L p, e0, rfl, rfl, rfl⟩ ?_ ?_ ?_
  · rintro r e ⟨ds, rs, e1, _, _, rfl⟩
    rfl
  · rintro x r e ⟨ds, rs, e1, h1, h2, rfl⟩
    cases rs with
    | nil => cases h2
    | cons z rs =>
      rw [List.map_cons] at h2
      injection h2 with e2 e3
      subst e2 e3
      have zL : z ∈ L := (List.mem_filter.mp (show z ∈ grA L p from by rw [h1]; simp)).1
      have zv := hm z zL
      refine ⟨liE X Y (plaD 0 v.names) (fdD L) (.str n) (kO p) ((grA L p).map fun e => PyData.str e.1) (some (.int (bstA (ixW v) n ds 0 : Nat))) (some (.str z.1)), ?_, ?_⟩
      · rw [gN_pI (liE_pl _ _ _ _ _ _ _ _ _) (show 9 < 10 by decide) (by cases e1 <;> rfl) (by rw [List.any_append, t9]; rfl) (.inl ⟨_, rfl⟩)]
        rfl
      · generalize hE : liE X Y (plaD 0 v.names) (fdD L) (.str n) (kO p) ((grA L p).map fun e => PyData.str e.1) (some (.int (bstA (ixW v) n ds 0 : Nat))) (some (.str z.1)) = E
        have v2 : E[2]? = some (some (.own (.dc (plaD 0 v.names)))) := by rw [← hE]; rfl
        have v3 : E[3]? = some (some (.own (.dc (fdD L)))) := by rw [← hE]; rfl
        have v5 : E[5]? = some (some (.d (.str n))) := by rw [← hE]; rfl
        have v8 : E[8]? = some (some (.d (.int (bstA (ixW v) n ds 0 : Nat)))) := by rw [← hE]; rfl
        have v9 : E[9]? = some (some (.d (.str z.1))) := by rw [← hE]; rfl
        have c1 := (Ev.eq (Ev.dgO v2 (Ev.v v9) (ixW_lk zv)) (Ev.dgO v2 (Ev.v v5) (ixW_lk hn)) (ltD_natN _ _)).tst ([.rf 7 none] ++ te)
        have fz := Ev.dgO v3 (Ev.v v9) (fdD_lk hL zL)
        have c2 := (Ev.eq fz (Ev.v v8) (gtD_nat _ _)).tst ([.rf 7 none] ++ te)
        have c := and_ev c1 (fun _ => c2)
        have lt : decide ((ixW v z.1 : Int) < (ixW v n : Int)) = decide (ixW v z.1 < ixW v n) := by
          by_cases q : ixW v z.1 < ixW v n
          · rw [decide_eq_true q, decide_eq_true (by omega)]
          · rw [decide_eq_false q, decide_eq_false (by omega)]
        by_cases q : ixW v z.1 < ixW v n ∧ bstA (ixW v) n ds 0 < z.2.2
        · refine FP.ifT (e := E) (by rw [c]; simp only [q.1, q.2, decide_true, Bool.and_self]) ?_
          refine FP.en (Asg.pI (fz _) (by rw [← hE]; exact liE_pl _ _ _ _ _ _ _ _ _) (by rw [← hE]; exact (by decide : 8 < 10)) (by rw [← hE]; rfl) (by rw [List.any_append, t8]; rfl) (.inl ⟨_, rfl⟩)) ⟨ds ++ [z], rs, some (.str z.1), by rw [h1, List.append_assoc]; rfl, rfl, ?_⟩
          rw [bstA_snoc, if_pos q, ← hE]
          rfl
        · refine FP.ifF (e := E) (by rw [c]; congr 1; rw [Bool.and_eq_false_iff, decide_eq_false_iff_not, decide_eq_false_iff_not]; omega) ?_
          refine FP.en (e := E) rfl ⟨ds ++ [z], rs, some (.str z.1), by rw [h1, List.append_assoc]; rfl, rfl, ?_⟩
          rw [bstA_snoc, if_neg q, ← hE]
  · rintro e ⟨ds, rs, e1, h1, h2, rfl⟩
    cases rs with
    | cons _ _ => cases h2
    | nil =>
      rw [List.append_nil] at h1
      rw [← h1]
      exact h1 ▸ k e1
end
end Tw

namespace Tw
open PySem PySem.Spec PyProof.Rows L2
/-! ### lengths (3) -/
theorem bstA_le (ix : Str → Nat) (n : Str) (m : Nat) : ∀ (gs : List LE) (b : Nat), b ≤ m → (∀ e ∈ gs, e.2.2 ≤ m) → bstA ix n gs b ≤ m
  | [], b, h, _ => h
  | e :: gs, b, h, hs => by
    unfold bstA
    rw [List.foldl_cons]
    refine bstA_le ix n m gs _ ?_ fun e he => hs e (List.mem_cons_of_mem _ he)
    split
    · exact hs e List.mem_cons_self
    · exact h
theorem lengths_fn (w v : Wd) (hw : w.size ≤ 10000) (hv : v.size ≤ 10000) (nw : ∀ z ∈ w.names, IsNm z) (nv : ∀ z ∈ v.names, IsNm z) (nd : w.names.Nodup) (vd : v.names.Nodup) (hp : ∀ n ∈ w.names, n ∈ v.names) :
    f_lengths [.d (.tuple w.data), .d (.tuple v.data)] = .ok (.own (.dc (fdD (lngA (ixW v) [] (styL w v))))) [.d (.tuple w.data), .d (.tuple v.data)] := by
  suffices h : DOk (fun r ios => r = .own (.dc (fdD (lngA (ixW v) [] (styL w v)))) ∧ ios = [.d (.tuple w.data), .d (.tuple v.data)]) (f_lengths [.d (.tuple w.data), .d (.tuple v.data)]) by
    obtain ⟨a, ios, e, rfl, rfl⟩ := h.ex
    exact e
  unfold f_lengths
  refine run_ok ?_
  unfold m_lengths
  have q1 := places_fn v hv nv vd
  have q2 := staying_fn w v hw hv nw nd vd hp
  generalize f_places = F1 at q1 ⊢
  generalize f_staying = F2 at q2 ⊢
  have vl : v.names.length ≤ 10000 := by rw [Wd.size_names]; exact hv
  have wl : w.names.length ≤ 10000 := by rw [Wd.size_names]; exact hw
  have sS : (styL w v).map (·.1) = w.names.filter fun n => decide (prO w n = prO v n) := by
    unfold styL
    rw [List.map_map]
    exact List.map_id _
  have ndS : ((styL w v).map (·.1)).Nodup := by rw [sS]; exact nd.filter _
  have mS : ∀ x ∈ styL w v, x.1 ∈ w.names := fun x hx => by
    have : x.1 ∈ (styL w v).map (·.1) := List.mem_map.mpr ⟨x, hx, rfl⟩
    rw [sS] at this
    exact (List.mem_filter.mp this).1
  have lS : (styL w v).length ≤ 10000 := by
    rw [← List.length_map (f := (·.1)), sS]
    exact Nat.le_trans (List.length_filter_le _ _) wl
  refine FP.st (e := [some (.d (.tuple w.data)), some (.d (.tuple v.data)), some (.own (.dc (plaD 0 v.names))), none, none, none, none, none, none, none]) (Asg.pl (call_own (xs := [.tuple v.data]) (Evs.cons (Ev.v rfl) Evs.nil) rfl q1) rfl (by decide : 2 < 10) rfl (.inr ⟨_, rfl⟩)) ?_
  refine FP.st (e := [some (.d (.tuple w.data)), some (.d (.tuple v.data)), some (.own (.dc (plaD 0 v.names))), some (.own (.dc [])), none, none, none, none, none, none]) (Asg.pl (a := .own (.dc [])) rfl rfl (by decide : 3 < 10) rfl (.inr ⟨_, rfl⟩)) ?_
  refine FP.st (e := lgE (.tuple w.data) (.tuple v.data) (plaD 0 v.names) [] [] none none none none) (Asg.pl (a := .own (.x (.dnl []))) rfl rfl (by decide : 4 < 10) rfl (.inr ⟨_, rfl⟩)) ?_
  refine FP.sq ?_
  refine fp_for (as := [.d (.list ((styL w v).map styD))]) (rd := fun _ => some ((styL w v).map styD)) (xs := (styL w v).map styD) (e := lgE (.tuple w.data) (.tuple v.data) (plaD 0 v.names) [] [] none none none none)
    (fun r e => ∃ (L : List LE) (G : List (Leaf × List Dt)) (rest : List (Str × Option Str)) (n p b e9 : Option Dt), r = rest.map styD ∧ L.map (fun e => (e.1, e.2.1)) ++ rest = styL w v ∧ lngA (ixW v) L rest = lngA (ixW v) [] (styL w v) ∧ (∀ e ∈ L, e.2.2 ≤ L.length) ∧ GrI G L ∧ e = lgE (.tuple w.data) (.tuple v.data) (plaD 0 v.names) (fdD L) G n p b e9)
    (seqI_lst (fun te => mD_ownl (call_own (xs := [.tuple w.data, .tuple v.data]) (Evs.two (Ev.v rfl) (Ev.v rfl)) rfl q2)) ) ⟨[], [], styL w v, none, none, none, none, rfl, rfl, rfl, (fun e he => nomatch he), ⟨Nat.le_refl _, fun p => rfl⟩, rfl⟩ (fun _ _ _ => rfl) ?_ ?_
  · rintro x r e ⟨L, G, rest, n0, p0, b0, e9, h1, h2, h3, h4, h5, rfl⟩
    cases rest with
    | nil => cases h1
    | cons z rest =>
      obtain ⟨n, p⟩ := z
      rw [List.map_cons] at h1
      injection h1 with h1a h1b
      subst h1a h1b
      have hn : n ∈ w.names := mS (n, p) (by rw [← h2]; simp)
      have ndL : (L.map (·.1)).Nodup := by
        have e : (L.map (fun e => (e.1, e.2.1)) ++ (n, p) :: rest).map (·.1) = L.map (·.1) ++ n :: rest.map (·.1) := by simp [Function.comp_def]
        rw [← h2, e, List.nodup_append] at ndS
        exact ndS.1
      have nL : n ∉ L.map (·.1) := fun y => by
        have e : (L.map (fun e => (e.1, e.2.1)) ++ (n, p) :: rest).map (·.1) = L.map (·.1) ++ n :: rest.map (·.1) := by simp [Function.comp_def]
        rw [← h2, e, List.nodup_append] at ndS
        exact ndS.2.2 n y n List.mem_cons_self rfl
      have mL : ∀ e ∈ L, e.1 ∈ v.names := fun e he => hp _ (mS (e.1, e.2.1) (by rw [← h2]; exact List.mem_append_left _ (List.mem_map.mpr ⟨e, he, rfl⟩)))
      have lL : L.length < 10000 := by
        have : L.length + (rest.length + 1) = (styL w v).length := by rw [← h2]; simp
        omega
      refine ⟨lgE (.tuple w.data) (.tuple v.data) (plaD 0 v.names) (fdD L) G (some (.str n)) (some (kO p)) b0 e9, by cases n0 <;> cases p0 <;> cases b0 <;> cases e9 <;> rfl, ?_⟩
      refine fp_lend (kx := kO p) (k := kL p) (kvs := G) (xs := (grA L p).map fun e => PyData.str e.1) rfl rfl (fun te => Ev.v rfl te) (lf_kO p) (fun te => rfl) (big' (by have := h5.1; omega)) (by cases b0 <;> cases e9 <;> rfl) (by cases b0 <;> cases e9 <;> rfl) rfl (by rw [lkL_def, h5.2 p]) ?_
      show FP _ _ (mSeq _ _ (liE (.tuple w.data) (.tuple v.data) (plaD 0 v.names) (fdD L) (.str n) (kO p) ((grA L p).map fun e => PyData.str e.1) b0 e9) _)
      refine FP.st (e := liE (.tuple w.data) (.tuple v.data) (plaD 0 v.names) (fdD L) (.str n) (kO p) ((grA L p).map fun e => PyData.str e.1) (some (.int (0 : Nat))) e9) (Asg.pI (a := .d (.int (0 : Nat))) rfl (liE_pl _ _ _ _ _ _ _ _ _) (by decide : 8 < 10) (by cases b0 <;> rfl) rfl (.inl ⟨_, rfl⟩)) ?_
      refine FP.sq (inner_fn vl ndL mL (hp n hn) (fun e he => Nat.le_trans (h4 e he) (by omega)) rfl rfl fun e1 => ?_)
      have bl : bstA (ixW v) n (grA L p) 0 ≤ L.length := bstA_le _ _ _ _ _ (Nat.zero_le _) fun e he => h4 e (List.mem_filter.mp he).1
      have ad : Ev (mD (mOp addA (mVar 8) (mC (.int 1)))) (liE (.tuple w.data) (.tuple v.data) (plaD 0 v.names) (fdD L) (.str n) (kO p) ((grA L p).map fun e => PyData.str e.1) (some (.int (bstA (ixW v) n (grA L p) 0 : Nat))) e1) (.int ((bstA (ixW v) n (grA L p) 0 + 1 : Nat) : Int)) := Ev.d (by
        have := Ev.addI (i := (bstA (ixW v) n (grA L p) 0 : Nat)) (j := 1) (env := liE (.tuple w.data) (.tuple v.data) (plaD 0 v.names) (fdD L) (.str n) (kO p) ((grA L p).map fun e => PyData.str e.1) (some (.int (bstA (ixW v) n (grA L p) 0 : Nat))) e1) (Ev.v (i := 8) rfl) (Ev.c (x := .int 1))
        rw [show ((bstA (ixW v) n (grA L p) 0 + 1 : Nat) : Int) = (bstA (ixW v) n (grA L p) 0 : Nat) + 1 from by omega]
        exact this)
      refine FP.st (e := liE (.tuple w.data) (.tuple v.data) (plaD 0 v.names) (fdD (L ++ [(n, p, bstA (ixW v) n (grA L p) 0 + 1)])) (.str n) (kO p) ((grA L p).map fun e => PyData.str e.1) (some (.int (bstA (ixW v) n (grA L p) 0 : Nat))) e1) (by
        rw [dc_putI (kvs := fdD L) (liE_pl _ _ _ _ _ _ _ _ _) rfl ad (Ev.v (i := 5) rfl) rfl (big' (by unfold fdD; rw [List.length_map]; omega))]
        rw [putD_new (fun y => nL (by
          obtain ⟨q, hq, e⟩ := List.mem_map.mp y
          unfold fdD at hq
          obtain ⟨e0, he0, rfl⟩ := List.mem_map.mp hq
          exact List.mem_map.mpr ⟨e0, he0, Sum.inr.inj e⟩))]
        unfold fdD
        rw [List.map_append]
        rfl) ?_
      refine FP.en (append_io (i := 7) (F := (grA L p).map fun e => PyData.str e.1) (x := .str n) rfl (fun te => Ev.d (Ev.v (i := 5) rfl) te) (big' (by rw [List.length_map]; have := List.length_filter_le (fun e : LE => decide (e.2.1 = p)) L; unfold grA; omega)) (by cases e1 <;> rfl) rfl) ?_
      refine ⟨(grA L p).map (fun e => PyData.str e.1) ++ [.str n], rfl, rfl, by cases e1 <;> rfl, by cases e1 <;> rfl, by cases e1 <;> rfl, by cases e1 <;> rfl, ?_⟩
      refine ⟨L ++ [(n, p, bstA (ixW v) n (grA L p) 0 + 1)], setL (defL G (kL p)) (kL p) ((grA L p).map (fun e => PyData.str e.1) ++ [.str n]), rest, some (.str n), some (kO p), some (.int (bstA (ixW v) n (grA L p) 0 : Nat)), e1, rfl, ?_, h3, ?_, h5.add n p _, ?_⟩
      · rw [List.map_append, List.append_assoc]; exact h2
      · intro e he
        rw [List.length_append]
        rcases List.mem_append.mp he with he | he
        · have := h4 e he; simp only [List.length_cons, List.length_nil]; omega
        · rw [List.mem_singleton.mp he]; simp only [List.length_cons, List.length_nil]; omega
      · rfl
  · rintro e ⟨L, G, rest, n0, p0, b0, e9, h1, h2, h3, h4, h5, rfl⟩
    cases rest with
    | cons _ _ => cases h1
    | nil =>
      have h3 : L = lngA (ixW v) [] (styL w v) := h3
      rw [← h3]
      exact FP.ret (a := .rf 3 none) rfl ⟨.own (.dc (fdD L)), by cases n0 <;> cases p0 <;> cases b0 <;> cases e9 <;> rfl, rfl, rfl⟩
end Tw

namespace Tw
open PySem PySem.Spec PyProof.Rows L2
/-! ### the names that rest -/
section
variable {env : Env} {i : Nat} {kvs : List (Leaf × Dt)}
theorem dn_atG (h : env[i]? = some (some (.own (.x (.dn kvs))))) : dnAt env (.rf i none) = some (i, kvs) := by
  unfold dnAt
  have ho : owAt env i = some (.x (.dn kvs)) := by unfold owAt; rw [h]
  simp only [ho]
theorem dn_varG (h : env[i]? = some (some (.own (.x (.dn kvs))))) (te : List A) : mVar i env te = .ok (.rf i none) env := by unfold mVar; rw [h]; rfl
theorem Ev.dnGet2 {mk mx : ME} {kx x : Dt} {k : Leaf} (h : env[i]? = some (some (.own (.x (.dn kvs))))) (hk : Ev mk env kx) (hl : lfD kx = some k) (hx : Ev mx env x) : Ev (mDnGet2 (mVar i) mk mx) env ((lkN kvs k).getD x) := fun te => by
  unfold mDnGet2
  rw [dn_varG h, zq00, dn_atG h]
  simp only [Option.isSome_some, if_true]
  rw [hk, zq00, hx, zq00]
  unfold dnGet2A
  rw [dn_atG h]
  have hb : ((A.d kx).val env).bind lfD = some k := hl
  rw [hb]
theorem Ev.dnG {mk : ME} {kx x : Dt} {k : Leaf} (h : env[i]? = some (some (.own (.x (.dn kvs))))) (hk : Ev mk env kx) (hl : lfD kx = some k) (hx : lkN kvs k = some x) : Ev (mOp dnGetA (mVar i) mk) env x := fun te => by
  rw [ev_mOp, dn_varG h, zq00, ek_mOp_0, hk, zq00, ek_mOp_1]
  unfold dnGetA
  rw [dn_atG h]
  have hb : ((A.d kx).val env).bind lfD = some k := hl
  rw [hb]
  simp only [hx]
theorem dn_putG {mv mk : ME} {kx x : Dt} {k : Leaf} {te : List A} (hv : Ev mv env x) (hk : Ev mk env kx) (hl : lfD kx = some k) (h : env[i]? = some (some (.own (.x (.dn kvs))))) (hz : kvs.length < sizeLine) : mPutN mv (mVar i) mk env te = .nx (env.set i (some (.own (.x (.dn (putN kvs k x)))))) := by
  unfold mPutN
  rw [hv, zq01, dn_varG h, zq01, hk, zq01]
  have e2 : putNA env (.rf i none) (.d kx) (.d x) = some (env.set i (some (.own (.x (.dn (putN kvs k x)))))) := by
    unfold putNA
    have hb : ((A.d kx).val env).bind lfD = some k := hl
    rw [hb, dn_atG h]
    simp only
    rw [h]
    simp only
    rw [if_pos hz]
    rfl
  rw [e2]
end
theorem lkN_put (kvs : List (Leaf × Dt)) (k k' : Leaf) (x : Dt) : lkN (putN kvs k x) k' = if k' = k then some x else lkN kvs k' := by
  unfold putN
  split
  · rename_i h
    have aux : ∀ kvs : List (Leaf × Dt), lkN (kvs.map fun q => if q.1 = k then (q.1, x) else q) k' = if k' = k then (if (kvs.any fun q => decide (q.1 = k)) = true then some x else none) else lkN kvs k' := by
      intro kvs
      induction kvs with
      | nil => show none = if k' = k then none else none; split <;> rfl
      | cons q kvs ih =>
        unfold lkN at ih ⊢
        rw [List.map_cons, List.find?_cons, List.find?_cons, List.any_cons]
        by_cases c : q.1 = k
        · rw [if_pos c]
          by_cases c2 : k' = k
          · rw [if_pos c2, show decide ((q.1, x).1 = k') = true from decide_eq_true (c.trans c2.symm), decide_eq_true c]
            rfl
          · rw [if_neg c2] at ih ⊢
            have c3 : q.1 ≠ k' := fun e => c2 (e.symm.trans c)
            rw [show decide ((q.1, x).1 = k') = false from decide_eq_false c3]
            exact ih
        · rw [if_neg c]
          by_cases c2 : k' = k
          · rw [if_pos c2] at ih ⊢
            rw [show decide (q.1 = k') = false from decide_eq_false fun e => c (e.trans c2), decide_eq_false c]
            exact ih
          · rw [if_neg c2] at ih ⊢
            by_cases c3 : q.1 = k'
            · rw [decide_eq_true c3]
            · rw [decide_eq_false c3]; exact ih
    rw [aux, h]
    rfl
  · rename_i h
    unfold lkN
    rw [List.find?_append]
    by_cases c2 : k' = k
    · rw [if_pos c2]
      have f : kvs.find? (fun q => decide (q.1 = k')) = none := by
        rw [List.find?_eq_none]
        intro q hq z
        exact h (List.any_eq_true.mpr ⟨q, hq, by rw [← c2]; exact z⟩)
      rw [f, c2]
      simp
    · rw [if_neg c2]
      cases kvs.find? (fun q => decide (q.1 = k')) with
      | some q => rfl
      | none =>
        rw [List.find?_cons, show decide ((k, x).1 = k') = false from decide_eq_false fun e => c2 e.symm]
        rfl
theorem putN_len (kvs : List (Leaf × Dt)) (k : Leaf) (x : Dt) : (putN kvs k x).length ≤ kvs.length + 1 := by
  unfold putN
  split
  · rw [List.length_map]; omega
  · rw [List.length_append]; exact Nat.le_refl _
theorem Ev.lenDc {env : Env} {i : Nat} {kvs : List (Key × Dt)} (h : env[i]? = some (some (.own (.dc kvs)))) : Ev (mCB (one lenA) (mCons (mVar i) mNil)) env (.int (kvs.length : Nat)) := fun te => by
  have ho : owAt env i = some (.dc kvs) := by unfold owAt; rw [h]
  have hv : ∀ te, mVar i env te = .ok (.rf i none) env := fun te => by unfold mVar; rw [h]; rfl
  show Rs.bind (mCons (mVar i) mNil env te) _ = _
  have c : mCons (mVar i) mNil env te = .ok [.rf i none] env := by
    rw [ev_mCons, hv, zq00, ek_mCons_0]
    rfl
  rw [c, zq00]
  show lenA env (.rf i none) = _
  unfold lenA
  have h1 : (A.rf i none).lst? env = none := by simp! [h]
  have h2 : (A.rf i none).val env = some (.dict (kvs.map fun q => (kD q.1, q.2))) := by
    show ((A.rf i none).ow env).bind Ow.dt = _
    show (owAt env i).bind Ow.dt = _
    rw [ho]
    rfl
  rw [h1, h2]
  simp [lenD]
def wmA (L : List LE) (p : Option Str) : Nat := (grA L p).foldl (fun b e => if b < e.2.2 then e.2.2 else b) 0
def rstA (ix : Str → Nat) (W : Option Str → Nat × Nat) : List LE → List Str
  | [] => []
  | e :: r => if e.2.2 = (W e.2.1).1 ∧ ix e.1 < (W e.2.1).2 then e.1 :: rstA ix (fun p => if p = e.2.1 then (e.2.2 - 1, ix e.1) else W p) r else rstA ix W r
/-- the names that no move of a fewest row moves -/
def rstW (w v : Wd) : List Str := rstA (ixW v) (fun p => (wmA (lngA (ixW v) [] (styL w v)) p, v.names.length)) (lngA (ixW v) [] (styL w v)).reverse
theorem lngA_pos (ix : Str → Nat) : ∀ (r : List (Str × Option Str)) (acc : List LE), (∀ e ∈ acc, 1 ≤ e.2.2) → ∀ e ∈ lngA ix acc r, 1 ≤ e.2.2
  | [], acc, h => h
  | x :: r, acc, h => by
    unfold lngA
    refine lngA_pos ix r _ fun e he => ?_
    rcases List.mem_append.mp he with he | he
    · exact h e he
    · rw [List.mem_singleton.mp he]; exact Nat.le_add_left _ _
theorem lngA_le (ix : Str → Nat) : ∀ (r : List (Str × Option Str)) (acc : List LE), (∀ e ∈ acc, e.2.2 ≤ acc.length) → ∀ e ∈ lngA ix acc r, e.2.2 ≤ acc.length + r.length
  | [], acc, h => h
  | x :: r, acc, h => by
    unfold lngA
    intro e he
    have := lngA_le ix r (acc ++ [(x.1, x.2, bstA ix x.1 (grA acc x.2) 0 + 1)]) (fun e he => by
      rw [List.length_append]
      rcases List.mem_append.mp he with he | he
      · have := h e he; simp only [List.length_cons, List.length_nil]; omega
      · rw [List.mem_singleton.mp he]
        have := bstA_le ix x.1 acc.length (grA acc x.2) 0 (Nat.zero_le _) fun e he => h e (List.mem_filter.mp he).1
        simp only [List.length_cons, List.length_nil]; omega) e he
    rw [List.length_append] at this
    simp only [List.length_cons, List.length_nil] at this ⊢
    omega
/-- what resting holds -/
def rgE (X Y : Dt) (T Fd : List (Key × Dt)) (S : List Dt) (G : List (Leaf × Dt)) (n p l : Option Dt) (rs : Option (List Dt)) (b : Option Dt) : Env :=
  [some (.d X), some (.d Y), some (.own (.dc T)), some (.own (.dc Fd)), some (.own (.l S)), some (.own (.x (.dn G))), od n, od p, od l, rs.map fun xs => .own (.l xs), od b]
theorem rgE_pl (X Y : Dt) (T Fd : List (Key × Dt)) (S : List Dt) (G : List (Leaf × Dt)) (n p l : Option Dt) (rs : Option (List Dt)) (b : Option Dt) : plB (rgE X Y T Fd S G n p l rs b) = true := by
  cases n <;> cases p <;> cases l <;> cases rs <;> cases b <;> rfl
theorem grA_snoc (ds : List LE) (e : LE) (q : Option Str) : grA (ds ++ [e]) q = if q = e.2.1 then grA ds q ++ [e] else grA ds q := by
  unfold grA
  rw [List.filter_append]
  by_cases c : q = e.2.1
  · rw [if_pos c, List.filter_cons, if_pos (decide_eq_true c.symm)]; rfl
  · rw [if_neg c, List.filter_cons, if_neg (by rw [decide_eq_false (fun z => c z.symm)]; exact Bool.false_ne_true)]; simp
theorem wmA_snoc (ds : List LE) (e : LE) : wmA (ds ++ [e]) e.2.1 = if wmA ds e.2.1 < e.2.2 then e.2.2 else wmA ds e.2.1 := by
  unfold wmA
  rw [grA_snoc, if_pos rfl, List.foldl_append]
  rfl
end Tw

namespace Tw
open PySem PySem.Spec PyProof.Rows L2
/-! ### the names that rest (2) -/
theorem gT_pl2 {env : Env} {i j : Nat} {x y : Dt} {te : List A} (hd : plB env = true) (hi : i < env.length) (hj : j < env.length) (t1 : te.any (isRf i) = false) (t2 : te.any (isRf j) = false) : gT [i, j] (.d (.tuple [x, y])) env te = some ((env.set i (some (.d x))).set j (some (.d y))) := by
  show (gN i (.d x) env te).bind (fun e => (gN j (.d y) e te).bind fun e => some e) = _
  rw [gN_pl hd hi t1 (.inl ⟨_, rfl⟩)]
  show (gN j (.d y) (env.set i (some (.d x))) te).bind (fun e => some e) = _
  rw [gN_pl (plB_set hd i _ (.inl ⟨_, rfl⟩)) (by rw [List.length_set]; exact hj) t2 (.inl ⟨_, rfl⟩)]
  rfl
section
variable {X Y : Dt} {v : Wd} {L : List LE}
/-- the first loop: for each parent how many rest -/
theorem rest1_fn (vl : v.names.length ≤ 10000) (hL : (L.map (·.1)).Nodup) (ll : L.length ≤ 10000) {N : Env → Prop} {R : A → Env → Prop}
    (k : ∀ G n p l, G.length ≤ L.length → (∀ q, (∃ e ∈ L, e.2.1 = q) → lkN G (kL q) = some (.tuple [.int (wmA L q : Nat), .int (v.names.length : Nat)])) → N (rgE X Y (plaD 0 v.names) (fdD L) (L.map fun e => styD (e.1, e.2.1)) G n p l none none)) :
    FP N R (mFor .d (mSeqI (mVar 4)) (gT [6, 7]) (mSeq (mAsg (mOp ixA (mDnGet2 (mVar 5) (mVar 7) (mTup (mCons (mC (.int 0)) (mCons (mC (.int 0)) mNil)))) (mC (.int 0))) (gN 8))
      (mPutN (mTup (mCons (mD (mIfE (mTst (mOp (fl2 gtD) (mOp dgA (mVar 3) (mVar 6)) (mVar 8))) (mOp dgA (mVar 3) (mVar 6)) (mVar 8))) (mCons (mD (mCB (one lenA) (mCons (mVar 2) mNil))) mNil))) (mVar 5) (mVar 7)))
      (rgE X Y (plaD 0 v.names) (fdD L) (L.map fun e => styD (e.1, e.2.1)) [] none none none none none) []) := by
  refine fp_for (as := [.rf 4 none]) (rd := fun env => (A.rf 4 none).seq? env) (xs := L.map fun e => styD (e.1, e.2.1)) (e := rgE X Y (plaD 0 v.names) (fdD L) (L.map fun e => styD (e.1, e.2.1)) [] none none none none none)
    (fun r e => ∃ ds rs G n p l, L = ds ++ rs ∧ r = rs.map (fun e => styD (e.1, e.2.1)) ∧ G.length ≤ ds.length ∧ (∀ q, lkN G (kL q) = if grA ds q = [] then none else some (.tuple [.int (wmA ds q : Nat), .int (v.names.length : Nat)])) ∧ e = rgE X Y (plaD 0 v.names) (fdD L) (L.map fun e => styD (e.1, e.2.1)) G n p l none none)
    rfl ⟨[], L, [], none, none, none, rfl, rfl, Nat.le_refl _, fun q => rfl, rfl⟩ ?_ ?_ ?_
  · rintro r e ⟨ds, rs, G, n, p, l, _, _, _, _, rfl⟩
    rfl
  · rintro x r e ⟨ds, rs, G, n, p, l, h1, h2, h3, h4, rfl⟩
    cases rs with
    | nil => cases h2
    | cons z rs =>
      rw [List.map_cons] at h2
      injection h2 with e2 e3
      subst e2 e3
      have zL : z ∈ L := by rw [h1]; simp
      refine ⟨rgE X Y (plaD 0 v.names) (fdD L) (L.map fun e => styD (e.1, e.2.1)) G (some (.str z.1)) (some (kO z.2.1)) l none none, ?_, ?_⟩
      · show gT [6, 7] (.d (.tuple [.str z.1, kO z.2.1])) _ _ = _
        rw [gT_pl2 (rgE_pl _ _ _ _ _ _ _ _ _ _ _) (by decide : 6 < 11) (by decide : 7 < 11) rfl rfl]
        rfl
      · have g0 : (lkN G (kL z.2.1)).getD (.tuple [.int 0, .int 0]) = .tuple [.int (wmA ds z.2.1 : Nat), .int (if grA ds z.2.1 = [] then 0 else v.names.length : Nat)] := by
          rw [h4]
          split
          · rename_i hg
            have : wmA ds z.2.1 = 0 := by unfold wmA; rw [hg]; rfl
            rw [this]
            rfl
          · rfl
        have ev1 : Ev (mOp ixA (mDnGet2 (mVar 5) (mVar 7) (mTup (mCons (mC (.int 0)) (mCons (mC (.int 0)) mNil)))) (mC (.int 0))) (rgE X Y (plaD 0 v.names) (fdD L) (L.map fun e => styD (e.1, e.2.1)) G (some (.str z.1)) (some (kO z.2.1)) l none none) (.int (wmA ds z.2.1 : Nat)) := by
          have a := Ev.dnGet2 (env := rgE X Y (plaD 0 v.names) (fdD L) (L.map fun e => styD (e.1, e.2.1)) G (some (.str z.1)) (some (kO z.2.1)) l none none) (i := 5) (kvs := G) rfl (Ev.v (i := 7) rfl) (lf_kO z.2.1) (Ev.tup (Evs.two (Ev.c (x := .int 0)) (Ev.c (x := .int 0))) (Nat.le_of_ble_eq_true rfl))
          rw [g0] at a
          exact Ev.ix a Ev.c rfl
        refine FP.st (e := rgE X Y (plaD 0 v.names) (fdD L) (L.map fun e => styD (e.1, e.2.1)) G (some (.str z.1)) (some (kO z.2.1)) (some (.int (wmA ds z.2.1 : Nat))) none none) (Asg.pl (ev1 _) (rgE_pl _ _ _ _ _ _ _ _ _ _ _) (by decide : 8 < 11) rfl (.inl ⟨_, rfl⟩)) ?_
        generalize hE : rgE X Y (plaD 0 v.names) (fdD L) (L.map fun e => styD (e.1, e.2.1)) G (some (.str z.1)) (some (kO z.2.1)) (some (.int (wmA ds z.2.1 : Nat))) none none = E
        have v2 : E[2]? = some (some (.own (.dc (plaD 0 v.names)))) := by rw [← hE]; rfl
        have v3 : E[3]? = some (some (.own (.dc (fdD L)))) := by rw [← hE]; rfl
        have v5 : E[5]? = some (some (.own (.x (.dn G)))) := by rw [← hE]; rfl
        have v6 : E[6]? = some (some (.d (.str z.1))) := by rw [← hE]; rfl
        have v7 : E[7]? = some (some (.d (kO z.2.1))) := by rw [← hE]; rfl
        have v8 : E[8]? = some (some (.d (.int (wmA ds z.2.1 : Nat)))) := by rw [← hE]; rfl
        have fz := Ev.dgO v3 (Ev.v v6) (fdD_lk hL zL)
        have c2 := fun te => (Ev.eq fz (Ev.v v8) (gtD_nat _ _)).tst te
        have iv : Ev (mIfE (mTst (mOp (fl2 gtD) (mOp dgA (mVar 3) (mVar 6)) (mVar 8))) (mOp dgA (mVar 3) (mVar 6)) (mVar 8)) E (.int (wmA (ds ++ [z]) z.2.1 : Nat)) := by
          refine Ev.ifE c2 (fun hb => ?_) (fun hb => ?_)
          · have hb : wmA ds z.2.1 < z.2.2 := by have := of_decide_eq_true hb; omega
            rw [wmA_snoc, if_pos hb]; exact fz
          · have hb : ¬ wmA ds z.2.1 < z.2.2 := by have := of_decide_eq_false hb; omega
            rw [wmA_snoc, if_neg hb]; exact Ev.v v8
        have ln : Ev (mCB (one lenA) (mCons (mVar 2) mNil)) E (.int (v.names.length : Nat)) := by
          have a := Ev.lenDc v2
          rw [show (plaD 0 v.names).length = v.names.length from by unfold plaD; rw [List.length_map, List.length_zipIdx]] at a
          exact a
        refine FP.en (dn_putG (Ev.tup (Evs.two (Ev.d iv) (Ev.d ln)) (Nat.le_of_ble_eq_true rfl)) (Ev.v v7) (lf_kO z.2.1) v5 (big' (by rw [h1, List.length_append] at ll; omega))) ?_
        refine ⟨ds ++ [z], rs, putN G (kL z.2.1) (.tuple [.int (wmA (ds ++ [z]) z.2.1 : Nat), .int (v.names.length : Nat)]), some (.str z.1), some (kO z.2.1), some (.int (wmA ds z.2.1 : Nat)), by rw [h1, List.append_assoc]; rfl, rfl, ?_, fun q => ?_, by rw [← hE]; rfl⟩
        · have := putN_len G (kL z.2.1) (.tuple [.int (wmA (ds ++ [z]) z.2.1 : Nat), .int (v.names.length : Nat)])
          rw [List.length_append]
          simp only [List.length_cons, List.length_nil]
          omega
        · rw [lkN_put, grA_snoc]
          by_cases c : q = z.2.1
          · rw [if_pos (by rw [c]), if_pos c, if_neg (by simp), c]
          · rw [if_neg (fun y => c (kL_inj y)), if_neg c, h4]
            have : wmA (ds ++ [z]) q = wmA ds q := by unfold wmA; rw [grA_snoc, if_neg c]
            rw [this]
  · rintro e ⟨ds, rs, G, n, p, l, h1, h2, h3, h4, rfl⟩
    cases rs with
    | cons _ _ => cases h2
    | nil =>
      rw [List.append_nil] at h1
      subst h1
      refine k G n p l h3 fun q ⟨e, he, eq⟩ => ?_
      rw [h4, if_neg]
      intro y
      have : e ∈ grA L q := List.mem_filter.mpr ⟨he, decide_eq_true eq⟩
      rw [y] at this
      cases this
end
end Tw

namespace Tw
open PySem PySem.Spec PyProof.Rows L2
/-! ### the names that rest (3) -/
theorem rstA_pos {ix : Str → Nat} {W : Option Str → Nat × Nat} {e : LE} {r : List LE} (h : e.2.2 = (W e.2.1).1 ∧ ix e.1 < (W e.2.1).2) : rstA ix W (e :: r) = e.1 :: rstA ix (fun p => if p = e.2.1 then (e.2.2 - 1, ix e.1) else W p) r := if_pos h
theorem rstA_neg {ix : Str → Nat} {W : Option Str → Nat × Nat} {e : LE} {r : List LE} (h : ¬ (e.2.2 = (W e.2.1).1 ∧ ix e.1 < (W e.2.1).2)) : rstA ix W (e :: r) = rstA ix W r := if_neg h
theorem append_att {env : Env} {i : Nat} {F : List Dt} {M : ME} {x : Dt} {te : List A} (hi : env[i]? = some (some (.own (.l F)))) (hM : ∀ te, M env te = .ok (.d x) env) (hz : F.length < sizeLine) (hn : inE (isNest i) env = false) (ht : te.any (isNest i) = false) : mDrop (mMeth appA (mVar i) (mCons M mNil)) env te = .nx (env.set i (some (.own (.l (F ++ [x]))))) := by
  simp! [hi, hM, hz, hn, ht]
section
variable {X Y : Dt} {v : Wd} {L : List LE}
theorem rest2_fn (vl : v.names.length ≤ 10000) (hL : (L.map (·.1)).Nodup) (ll : L.length ≤ 10000) (hm : ∀ e ∈ L, e.1 ∈ v.names) (hp : ∀ e ∈ L, 1 ≤ e.2.2 ∧ e.2.2 ≤ 100000) {G0 : List (Leaf × Dt)} (g0 : G0.length ≤ L.length) (W0 : Option Str → Nat × Nat)
    (w0 : ∀ q, (∃ e ∈ L, e.2.1 = q) → lkN G0 (kL q) = some (.tuple [.int ((W0 q).1 : Nat), .int ((W0 q).2 : Nat)])) {n0 p0 l0 : Option Dt} {N : Env → Prop} {R : A → Env → Prop}
    (k : ∀ G n p l b, N (rgE X Y (plaD 0 v.names) (fdD L) (L.map fun e => styD (e.1, e.2.1)) G n p l (some ((rstA (ixW v) W0 L.reverse).map .str)) b)) :
    FP N R (mFor .d (mSeqI (mD (mU revLA (mVar 4)))) (gT [6, 7]) (mSeq (mAsg (mOp dnGetA (mVar 5) (mVar 7)) (gT [8, 10]))
      (mIfS (mAnd (mTst (mOp (fl2 eqD) (mOp dgA (mVar 3) (mVar 6)) (mVar 8))) (mTst (mOp (fl2 ltD) (mOp dgA (mVar 2) (mVar 6)) (mVar 10)))) (mSeq (mDrop (mMeth appA (mVar 9) (mCons (mD (mVar 6)) mNil)))
      (mPutN (mTup (mCons (mD (mOp (fl2 subD) (mVar 8) (mC (.int 1)))) (mCons (mD (mOp dgA (mVar 2) (mVar 6))) mNil))) (mVar 5) (mVar 7))) mNext))
      (rgE X Y (plaD 0 v.names) (fdD L) (L.map fun e => styD (e.1, e.2.1)) G0 n0 p0 l0 (some []) none) []) := by
  have rv : ∀ te, mU revLA (mVar 4) (rgE X Y (plaD 0 v.names) (fdD L) (L.map fun e => styD (e.1, e.2.1)) G0 n0 p0 l0 (some []) none) te = .ok (.own (.l (L.map fun e => styD (e.1, e.2.1)).reverse)) (rgE X Y (plaD 0 v.names) (fdD L) (L.map fun e => styD (e.1, e.2.1)) G0 n0 p0 l0 (some []) none) := fun te => by
    cases n0 <;> cases p0 <;> cases l0 <;> rfl
  rw [← List.map_reverse] at rv
  refine fp_for (as := [.d (.list (L.reverse.map fun e => styD (e.1, e.2.1)))]) (rd := fun _ => some (L.reverse.map fun e => styD (e.1, e.2.1))) (xs := L.reverse.map fun e => styD (e.1, e.2.1)) (e := rgE X Y (plaD 0 v.names) (fdD L) (L.map fun e => styD (e.1, e.2.1)) G0 n0 p0 l0 (some []) none)
    (fun r e => ∃ (ds : List Str) (rs : List LE) (W : Option Str → Nat × Nat) (G : List (Leaf × Dt)) (n p l b : Option Dt), (∀ x ∈ rs, x ∈ L) ∧ r = rs.map (fun e => styD (e.1, e.2.1)) ∧ ds ++ rstA (ixW v) W rs = rstA (ixW v) W0 L.reverse ∧ ds.length + rs.length ≤ L.length ∧ G.length ≤ L.length + ds.length ∧ (∀ q, (∃ e ∈ L, e.2.1 = q) → lkN G (kL q) = some (.tuple [.int ((W q).1 : Nat), .int ((W q).2 : Nat)])) ∧ e = rgE X Y (plaD 0 v.names) (fdD L) (L.map fun e => styD (e.1, e.2.1)) G n p l (some (ds.map .str)) b)
    (seqI_lst (fun te => mD_ownl (rv te))) ⟨[], L.reverse, W0, G0, n0, p0, l0, none, (fun x hx => List.mem_reverse.mp hx), rfl, rfl, (by rw [List.length_reverse]; exact Nat.le_of_eq (Nat.zero_add _)), (by simpa using g0), w0, rfl⟩ (fun _ _ _ => rfl) ?_ ?_
  · rintro x r e ⟨ds, rs, W, G, n, p, l, b, h0, h2, h3, h4, h5, h6, rfl⟩
    cases rs with
    | nil => cases h2
    | cons z rs =>
      rw [List.map_cons] at h2
      injection h2 with e2 e3
      subst e2 e3
      have zL : z ∈ L := h0 z List.mem_cons_self
      obtain ⟨hz1, hz2⟩ := hp z zL
      refine ⟨rgE X Y (plaD 0 v.names) (fdD L) (L.map fun e => styD (e.1, e.2.1)) G (some (.str z.1)) (some (kO z.2.1)) l (some (ds.map .str)) b, ?_, ?_⟩
      · show gT [6, 7] (.d (.tuple [.str z.1, kO z.2.1])) _ _ = _
        rw [gT_pl2 (rgE_pl _ _ _ _ _ _ _ _ _ _ _) (by decide : 6 < 11) (by decide : 7 < 11) rfl rfl]
        rfl
      · have gz := h6 z.2.1 ⟨z, zL, rfl⟩
        refine FP.st (e := rgE X Y (plaD 0 v.names) (fdD L) (L.map fun e => styD (e.1, e.2.1)) G (some (.str z.1)) (some (kO z.2.1)) (some (.int ((W z.2.1).1 : Nat))) (some (ds.map .str)) (some (.int ((W z.2.1).2 : Nat)))) (by
          rw [ev_mAsg, Ev.dnG (i := 5) (kvs := G) rfl (Ev.v (i := 7) rfl) (lf_kO z.2.1) gz, zq01]
          show (match gT [8, 10] (.d (.tuple [.int ((W z.2.1).1 : Nat), .int ((W z.2.1).2 : Nat)])) _ _ with | some e' => Fl.nx e' | none => .bad) = _
          rw [gT_pl2 (rgE_pl _ _ _ _ _ _ _ _ _ _ _) (by decide : 8 < 11) (by decide : 10 < 11) rfl rfl]
          rfl) ?_
        generalize hE : rgE X Y (plaD 0 v.names) (fdD L) (L.map fun e => styD (e.1, e.2.1)) G (some (.str z.1)) (some (kO z.2.1)) (some (.int ((W z.2.1).1 : Nat))) (some (ds.map .str)) (some (.int ((W z.2.1).2 : Nat))) = E
        have pE : plB E = true := by rw [← hE]; exact rgE_pl _ _ _ _ _ _ _ _ _ _ _
        have v2 : E[2]? = some (some (.own (.dc (plaD 0 v.names)))) := by rw [← hE]; rfl
        have v3 : E[3]? = some (some (.own (.dc (fdD L)))) := by rw [← hE]; rfl
        have v6 : E[6]? = some (some (.d (.str z.1))) := by rw [← hE]; rfl
        have v8 : E[8]? = some (some (.d (.int ((W z.2.1).1 : Nat)))) := by rw [← hE]; rfl
        have v10 : E[10]? = some (some (.d (.int ((W z.2.1).2 : Nat)))) := by rw [← hE]; rfl
        have fz := Ev.dgO v3 (Ev.v v6) (fdD_lk hL zL)
        have iz := Ev.dgO v2 (Ev.v v6) (ixW_lk (hm z zL))
        have c1 := fun te => (Ev.eq fz (Ev.v v8) (eqD_int _ _)).tst te
        have c2 := fun te => (Ev.eq iz (Ev.v v10) (ltD_natN _ _)).tst te
        have c := fun te => and_ev (c1 te) (fun _ => c2 te)
        by_cases q : z.2.2 = (W z.2.1).1 ∧ ixW v z.1 < (W z.2.1).2
        · refine FP.ifT (e := E) (by rw [c]; congr 1; rw [Bool.and_eq_true, decide_eq_true_eq, decide_eq_true_eq]; omega) ?_
          refine FP.st (e := rgE X Y (plaD 0 v.names) (fdD L) (L.map fun e => styD (e.1, e.2.1)) G (some (.str z.1)) (some (kO z.2.1)) (some (.int ((W z.2.1).1 : Nat))) (some ((ds ++ [z.1]).map .str)) (some (.int ((W z.2.1).2 : Nat)))) (by
            rw [← hE, append_att (i := 9) (F := ds.map .str) (x := .str z.1) rfl (fun te => Ev.d (Ev.v (i := 6) rfl) te) (big' (by rw [List.length_map]; rw [List.length_cons] at h4; omega)) rfl rfl, List.map_append]
            rfl) ?_
          have sb : Ev (mD (mOp (fl2 subD) (mVar 8) (mC (.int 1)))) (rgE X Y (plaD 0 v.names) (fdD L) (L.map fun e => styD (e.1, e.2.1)) G (some (.str z.1)) (some (kO z.2.1)) (some (.int ((W z.2.1).1 : Nat))) (some ((ds ++ [z.1]).map .str)) (some (.int ((W z.2.1).2 : Nat)))) (.int ((z.2.2 - 1 : Nat) : Int)) := Ev.d (by
            have a := Ev.subI (env := rgE X Y (plaD 0 v.names) (fdD L) (L.map fun e => styD (e.1, e.2.1)) G (some (.str z.1)) (some (kO z.2.1)) (some (.int ((W z.2.1).1 : Nat))) (some ((ds ++ [z.1]).map .str)) (some (.int ((W z.2.1).2 : Nat)))) (i := ((W z.2.1).1 : Nat)) (j := 1) (Ev.v (i := 8) rfl) (Ev.c (x := .int 1))
            rw [← q.1] at a ⊢
            rw [show ((z.2.2 - 1 : Nat) : Int) = (z.2.2 : Nat) - 1 from by omega]
            exact a)
          have iz2 : Ev (mOp dgA (mVar 2) (mVar 6)) (rgE X Y (plaD 0 v.names) (fdD L) (L.map fun e => styD (e.1, e.2.1)) G (some (.str z.1)) (some (kO z.2.1)) (some (.int ((W z.2.1).1 : Nat))) (some ((ds ++ [z.1]).map .str)) (some (.int ((W z.2.1).2 : Nat)))) (.int (ixW v z.1 : Nat)) := Ev.dgO rfl (Ev.v (i := 6) rfl) (ixW_lk (hm z zL))
          refine FP.en (dn_putG (i := 5) (kvs := G) (Ev.tup (Evs.two sb (Ev.d iz2)) (Nat.le_of_ble_eq_true rfl)) (Ev.v (i := 7) rfl) (lf_kO z.2.1) rfl (big' (by rw [List.length_cons] at h4; omega))) ?_
          refine ⟨ds ++ [z.1], rs, (fun p => if p = z.2.1 then (z.2.2 - 1, ixW v z.1) else W p), putN G (kL z.2.1) (.tuple [.int ((z.2.2 - 1 : Nat) : Int), .int (ixW v z.1 : Nat)]), _, _, _, _, fun x hx => h0 x (List.mem_cons_of_mem _ hx), rfl, ?_, ?_, ?_, fun y hy => ?_, rfl⟩
          · rw [← h3, rstA_pos q, List.append_assoc]
            rfl
          · rw [List.length_append]; rw [List.length_cons] at h4; simp only [List.length_cons, List.length_nil]; omega
          · have := putN_len G (kL z.2.1) (.tuple [.int ((z.2.2 - 1 : Nat) : Int), .int (ixW v z.1 : Nat)])
            rw [List.length_append]; simp only [List.length_cons, List.length_nil]; omega
          · rw [lkN_put]
            by_cases cc : y = z.2.1
            · rw [if_pos (by rw [cc])]; simp only [if_pos cc]
            · rw [if_neg (fun t => cc (kL_inj t))]; simp only [if_neg cc]; exact h6 y hy
        · refine FP.ifF (e := E) (by rw [c]; congr 1; rw [Bool.and_eq_false_iff, decide_eq_false_iff_not, decide_eq_false_iff_not]; omega) ?_
          refine FP.en (e := E) rfl ⟨ds, rs, W, G, some (.str z.1), some (kO z.2.1), some (.int ((W z.2.1).1 : Nat)), some (.int ((W z.2.1).2 : Nat)), fun x hx => h0 x (List.mem_cons_of_mem _ hx), rfl, ?_, by rw [List.length_cons] at h4; omega, h5, h6, hE.symm⟩
          rw [← h3, rstA_neg q]
  · rintro e ⟨ds, rs, W, G, n, p, l, b, h0, h2, h3, h4, h5, h6, rfl⟩
    cases rs with
    | cons _ _ => cases h2
    | nil =>
      have h3 : ds = rstA (ixW v) W0 L.reverse := by rw [← h3]; exact (List.append_nil _).symm
      rw [h3]
      exact k G n p l b
end
end Tw

namespace Tw
open PySem PySem.Spec PyProof.Rows L2
/-! ### the least number of moves -/
theorem srtS_congr {xs ys : List Str} (p : xs.Perm ys) : srtS xs = srtS ys := by
  exact perm_sorted (fun a b => leS_anti a b) (((srtS_perm _).trans p).trans (srtS_perm _).symm) (srtS_pw _) (srtS_pw _)
theorem sortT_at {m : ME} {env : Env} {te : List A} {ss : List Str} (h : m env te = .ok (.d (.tuple (ss.map .str))) env) (hl : ss.length ≤ 10000) : mCB (one sortTA) (mCons m mNil) env te = .ok (.own (.l ((srtS ss).map .str))) env := by
  show Rs.bind (mCons m mNil env te) _ = _
  have c : mCons m mNil env te = .ok [.d (.tuple (ss.map .str))] env := by
    rw [ev_mCons, h, zq00, ek_mCons_0]
    rfl
  rw [c, zq00]
  show (match strsD (ss.map .str) with
    | some ss => if ss.length ≤ 10000 then Rs.ok (A.own (.l ((srtS ss).map .str))) env else .bad
    | none => .bad) = _
  rw [strsD_map]
  exact if_pos hl
structure WdH (w : Wd) : Prop where
  sz : w.size ≤ 10000
  nm : ∀ z ∈ w.names, IsNm z
  nd : w.names.Nodup
theorem WdH.len {w : Wd} (h : WdH w) : w.names.length ≤ 10000 := by rw [Wd.size_names]; exact h.sz
section
variable {w v : Wd}
theorem require_alike_fn (hw : WdH w) (hv : WdH v) (pm : w.names.Perm v.names) : f_require_alike [.d (.tuple w.data), .d (.tuple v.data)] = .ok (.d .none) [.d (.tuple w.data), .d (.tuple v.data)] := by
  suffices h : DOk (fun r ios => r = .d .none ∧ ios = [.d (.tuple w.data), .d (.tuple v.data)]) (f_require_alike [.d (.tuple w.data), .d (.tuple v.data)]) by
    obtain ⟨a, ios, e, rfl, rfl⟩ := h.ex
    exact e
  unfold f_require_alike
  refine run_ok ?_
  unfold m_require_alike
  have q1 := names_of_ok w hw.sz hw.nm
  have q2 := names_of_ok v hv.sz hv.nm
  generalize f_names_of = FN at q1 q2 ⊢
  have c1 : ∀ te, mCB (one sortTA) (mCons (mCall (noXf FN) [false] (mCons (mVar 0) mNil)) mNil) [some (.d (.tuple w.data)), some (.d (.tuple v.data))] te = .ok (.own (.l ((srtS w.names).map .str))) [some (.d (.tuple w.data)), some (.d (.tuple v.data))] := fun te =>
    sortT_at (Ev.call (xs := [.tuple w.data]) (Evs.cons (Ev.v rfl) Evs.nil) rfl q1 te) hw.len
  have c2 : ∀ te, mCB (one sortTA) (mCons (mCall (noXf FN) [false] (mCons (mVar 1) mNil)) mNil) [some (.d (.tuple w.data)), some (.d (.tuple v.data))] te = .ok (.own (.l ((srtS v.names).map .str))) [some (.d (.tuple w.data)), some (.d (.tuple v.data))] := fun te =>
    sortT_at (Ev.call (xs := [.tuple v.data]) (Evs.cons (Ev.v rfl) Evs.nil) rfl q2 te) hv.len
  refine FP.ifF (e := [some (.d (.tuple w.data)), some (.d (.tuple v.data))]) (tst_at ?_) (FP.en rfl ⟨rfl, rfl⟩)
  show mOp (fl2 neD) _ _ [some (.d (.tuple w.data)), some (.d (.tuple v.data))] [] = _
  rw [ev_mOp, c1, zq00, ek_mOp_0, c2, zq00, ek_mOp_1]
  show (match neD (.list ((srtS w.names).map .str)) (.list ((srtS v.names).map .str)) with | some x => Rs.ok (A.d x) _ | none => .bad) = _
  rw [neD_strs, srtS_congr pm]
  simp
theorem styL_names (w v : Wd) : (styL w v).map (·.1) = w.names.filter fun n => decide (prO w n = prO v n) := by
  unfold styL
  rw [List.map_map]
  exact List.map_id _
theorem lngA_map (ix : Str → Nat) (S : List (Str × Option Str)) : (lngA ix [] S).map (fun e => (e.1, e.2.1)) = S := lngA_names ix S []
theorem lngA_fst (ix : Str → Nat) (S : List (Str × Option Str)) : (lngA ix [] S).map (·.1) = S.map (·.1) := by
  rw [← lngA_map ix S, List.map_map, lngA_map ix S]
  rfl
theorem resting_fn (hw : WdH w) (hv : WdH v) (hp : ∀ n ∈ w.names, n ∈ v.names) : f_resting [.d (.tuple w.data), .d (.tuple v.data)] = .ok (.own (.l ((rstW w v).map .str))) [.d (.tuple w.data), .d (.tuple v.data)] := by
  suffices h : DOk (fun r ios => r = .own (.l ((rstW w v).map .str)) ∧ ios = [.d (.tuple w.data), .d (.tuple v.data)]) (f_resting [.d (.tuple w.data), .d (.tuple v.data)]) by
    obtain ⟨a, ios, e, rfl, rfl⟩ := h.ex
    exact e
  unfold f_resting
  refine run_ok ?_
  unfold m_resting
  have q1 := places_fn v hv.sz hv.nm hv.nd
  have q2 := lengths_fn w v hw.sz hv.sz hw.nm hv.nm hw.nd hv.nd hp
  have q3 := staying_fn w v hw.sz hv.sz hw.nm hw.nd hv.nd hp
  generalize f_places = F1 at q1 ⊢
  generalize f_lengths = F2 at q2 ⊢
  generalize f_staying = F3 at q3 ⊢
  generalize hLL : lngA (ixW v) [] (styL w v) = L at q2
  have eS : styL w v = L.map fun e => (e.1, e.2.1) := by rw [← hLL]; exact (lngA_map _ _).symm
  have eD : (styL w v).map styD = L.map fun e => styD (e.1, e.2.1) := by rw [eS, List.map_map]; rfl
  rw [eD] at q3
  have ndL : (L.map (·.1)).Nodup := by rw [← hLL, lngA_fst, styL_names]; exact hw.nd.filter _
  have ll : L.length ≤ 10000 := by
    have : (L.map (·.1)).length = ((styL w v).map (·.1)).length := by rw [← hLL, lngA_fst]
    rw [List.length_map, styL_names] at this
    rw [this]
    exact Nat.le_trans (List.length_filter_le _ _) hw.len
  have mL : ∀ e ∈ L, e.1 ∈ v.names := fun e he => by
    have : e.1 ∈ L.map (·.1) := List.mem_map.mpr ⟨e, he, rfl⟩
    rw [← hLL, lngA_fst, styL_names] at this
    exact hp _ (List.mem_filter.mp this).1
  have pL : ∀ e ∈ L, 1 ≤ e.2.2 ∧ e.2.2 ≤ 100000 := fun e he => by
    rw [← hLL] at he
    have a := lngA_pos (ixW v) (styL w v) [] (fun _ h => nomatch h) e he
    have b := lngA_le (ixW v) (styL w v) [] (fun _ h => nomatch h) e he
    have c : (styL w v).length = L.length := by rw [eS, List.length_map]
    rw [c] at b
    simp only [List.length_nil] at b
    omega
  refine FP.st (e := [some (.d (.tuple w.data)), some (.d (.tuple v.data)), some (.own (.dc (plaD 0 v.names))), none, none, none, none, none, none, none, none]) (Asg.pl (call_own (xs := [.tuple v.data]) (Evs.cons (Ev.v rfl) Evs.nil) rfl q1) rfl (by decide : 2 < 11) rfl (.inr ⟨_, rfl⟩)) ?_
  refine FP.st (e := [some (.d (.tuple w.data)), some (.d (.tuple v.data)), some (.own (.dc (plaD 0 v.names))), some (.own (.dc (fdD L))), none, none, none, none, none, none, none]) (Asg.pl (call_own (xs := [.tuple w.data, .tuple v.data]) (Evs.two (Ev.v rfl) (Ev.v rfl)) rfl q2) rfl (by decide : 3 < 11) rfl (.inr ⟨_, rfl⟩)) ?_
  refine FP.st (e := [some (.d (.tuple w.data)), some (.d (.tuple v.data)), some (.own (.dc (plaD 0 v.names))), some (.own (.dc (fdD L))), some (.own (.l (L.map fun e => styD (e.1, e.2.1)))), none, none, none, none, none, none]) (Asg.pl (call_own (o := .l (L.map fun e => styD (e.1, e.2.1))) (xs := [.tuple w.data, .tuple v.data]) (Evs.two (Ev.v rfl) (Ev.v rfl)) rfl q3) rfl (by decide : 4 < 11) rfl (.inr ⟨_, rfl⟩)) ?_
  refine FP.st (e := rgE (.tuple w.data) (.tuple v.data) (plaD 0 v.names) (fdD L) (L.map fun e => styD (e.1, e.2.1)) [] none none none none none) (Asg.pl (a := .own (.x (.dn []))) rfl rfl (by decide : 5 < 11) rfl (.inr ⟨_, rfl⟩)) ?_
  refine FP.sq (rest1_fn hv.len ndL ll fun G n p l g1 g2 => ?_)
  refine FP.st (e := rgE (.tuple w.data) (.tuple v.data) (plaD 0 v.names) (fdD L) (L.map fun e => styD (e.1, e.2.1)) G n p l (some []) none) (Asg.pl (a := .own (.l [])) rfl (rgE_pl _ _ _ _ _ _ _ _ _ _ _) (by decide : 9 < 11) rfl (.inr ⟨_, rfl⟩)) ?_
  refine FP.sq (rest2_fn hv.len ndL ll mL pL g1 (fun p => (wmA L p, v.names.length)) g2 fun G n p l b => ?_)
  refine FP.ret (a := .rf 9 none) rfl ⟨.own (.l ((rstW w v).map .str)), ?_, rfl, rfl⟩
  unfold rstW
  rw [hLL]
  cases n <;> cases p <;> cases l <;> cases b <;> rfl
/-- how many moves it takes at least -/
def lmvW (w v : Wd) : Int := w.names.length - (rstW w v).length
theorem least_fn (hw : WdH w) (hv : WdH v) (pm : w.names.Perm v.names) : f_least_moves [.d (.tuple w.data), .d (.tuple v.data)] = .ok (.d (.int (lmvW w v))) [.d (.tuple w.data), .d (.tuple v.data)] := by
  suffices h : DOk (fun r ios => r = .d (.int (lmvW w v)) ∧ ios = [.d (.tuple w.data), .d (.tuple v.data)]) (f_least_moves [.d (.tuple w.data), .d (.tuple v.data)]) by
    obtain ⟨a, ios, e, rfl, rfl⟩ := h.ex
    exact e
  unfold f_least_moves
  refine run_ok ?_
  unfold m_least_moves
  have q1 := require_alike_fn hw hv pm
  have q2 := names_of_ok w hw.sz hw.nm
  have q3 := resting_fn hw hv fun n hn => pm.mem_iff.mp hn
  generalize f_require_alike = F1 at q1 ⊢
  generalize f_names_of = F2 at q2 ⊢
  generalize f_resting = F3 at q3 ⊢
  refine FP.st (e := [some (.d (.tuple w.data)), some (.d (.tuple v.data))]) (by
    show (mCall (noXf F1) [false, false] (mCons (mVar 0) (mCons (mVar 1) mNil)) _ _).fl _ = _
    have c : mCall (noXf F1) [false, false] (mCons (mVar 0) (mCons (mVar 1) mNil)) [some (.d (.tuple w.data)), some (.d (.tuple v.data))] [] = .ok (.d .none) [some (.d (.tuple w.data)), some (.d (.tuple v.data))] := Ev.call (xs := [.tuple w.data, .tuple v.data]) (Evs.two (Ev.v rfl) (Ev.v rfl)) rfl q1 []
    exact c ▸ rfl) ?_
  have l1 : ∀ te, mCB (one lenA) (mCons (mCall (noXf F2) [false] (mCons (mVar 0) mNil)) mNil) [some (.d (.tuple w.data)), some (.d (.tuple v.data))] te = .ok (.d (.int (w.names.length : Nat))) [some (.d (.tuple w.data)), some (.d (.tuple v.data))] := fun te => by
    have a := Ev.len (Ev.call (env := [some (.d (.tuple w.data)), some (.d (.tuple v.data))]) (io := [false]) (xs := [.tuple w.data]) (Evs.cons (Ev.v (i := 0) rfl) Evs.nil) rfl q2) te
    rw [List.length_map] at a
    exact a
  have l2 : ∀ te, mCB (one lenA) (mCons (mCall (noXf F3) [false, false] (mCons (mVar 0) (mCons (mVar 1) mNil))) mNil) [some (.d (.tuple w.data)), some (.d (.tuple v.data))] te = .ok (.d (.int ((rstW w v).length : Nat))) [some (.d (.tuple w.data)), some (.d (.tuple v.data))] := fun te => by
    show Rs.bind (mCons _ mNil _ te) _ = _
    have c : mCons (mCall (noXf F3) [false, false] (mCons (mVar 0) (mCons (mVar 1) mNil))) mNil [some (.d (.tuple w.data)), some (.d (.tuple v.data))] te = .ok [.own (.l ((rstW w v).map .str))] [some (.d (.tuple w.data)), some (.d (.tuple v.data))] := by
      have cc : mCall (noXf F3) [false, false] (mCons (mVar 0) (mCons (mVar 1) mNil)) [some (.d (.tuple w.data)), some (.d (.tuple v.data))] te = .ok (.own (.l ((rstW w v).map .str))) [some (.d (.tuple w.data)), some (.d (.tuple v.data))] := call_own (xs := [.tuple w.data, .tuple v.data]) (Evs.two (Ev.v (i := 0) rfl) (Ev.v (i := 1) rfl)) rfl q3
      rw [ev_mCons, cc, zq00, ek_mCons_0]
      rfl
    rw [c, zq00]
    show (Rs.ok (A.d (.int ((rstW w v).map PyData.str).length)) _ : Rs A) = _
    rw [List.length_map]
  refine FP.ret (a := .d (.int (lmvW w v))) (e := [some (.d (.tuple w.data)), some (.d (.tuple v.data))]) ?_ ⟨_, rfl, rfl, rfl⟩
  exact Ev.subI l1 l2 []
end
end Tw

namespace Tw
open PySem PySem.Spec PyProof.Rows L2
/-! ### a node around both woods -/
def ovP (o : Str) : Option Str → Option Str
  | none => some o
  | some x => some x
theorem ovP_inj {o : Str} {p q : Option Str} (hp : p ≠ some o) (hq : q ≠ some o) (h : ovP o p = ovP o q) : p = q := by
  cases p with
  | none => cases q with
    | none => rfl
    | some x => exact absurd h.symm hq
  | some x => cases q with
    | none => exact absurd h hp
    | some y => exact h
theorem ovP_some (o : Str) (p : Option Str) : ∃ z, ovP o p = some z := by cases p <;> exact ⟨_, rfl⟩
theorem parO_ov (o : Str) : ∀ (p : Option Str) (w : Wd), parO (ovP o p) w = (parO p w).map fun x => (x.1, ovP o x.2)
  | _, .nil => rfl
  | p, .cons n i r => by
    show (n, ovP o p) :: (parO (ovP o (some n)) i ++ parO (ovP o p) r) = _
    rw [parO_ov, parO_ov, parO, List.map_cons, List.map_append]
theorem parO_par : ∀ (p : Option Str) (w : Wd), ∀ x ∈ parO p w, x.2 = p ∨ ∃ m ∈ w.names, x.2 = some m
  | _, .nil, x, h => nomatch h
  | p, .cons n i r, x, h => by
    rcases List.mem_cons.mp h with rfl | h
    · exact .inl rfl
    · rcases List.mem_append.mp h with h | h
      · rcases parO_par (some n) i x h with e | ⟨m, hm, e⟩
        · exact .inr ⟨n, List.mem_cons_self, e⟩
        · exact .inr ⟨m, List.mem_cons_of_mem _ (List.mem_append_left _ hm), e⟩
      · rcases parO_par p r x h with e | ⟨m, hm, e⟩
        · exact .inl e
        · exact .inr ⟨m, List.mem_cons_of_mem _ (List.mem_append_right _ hm), e⟩
theorem prO_ne {w : Wd} {o n : Str} (ho : o ∉ w.names) (hn : n ∈ w.names) : prO w n ≠ some o := fun e => by
  rcases parO_par none w _ (prO_mem hn) with h | ⟨m, hm, h⟩
  · rw [show (n, prO w n).2 = prO w n from rfl, e] at h; cases h
  · rw [show (n, prO w n).2 = prO w n from rfl, e] at h; cases h; exact ho hm
theorem lookup_map {β γ : Type} (f : β → γ) : ∀ (l : List (Str × β)) (n : Str), (l.map fun x => (x.1, f x.2)).lookup n = (l.lookup n).map f
  | [], n => rfl
  | q :: l, n => by
    rw [List.map_cons, List.lookup_cons, List.lookup_cons]
    cases n == q.1
    · exact lookup_map f l n
    · rfl
/-- a wood in a node -/
def Wd.ov (o : Str) (w : Wd) : Wd := .cons o w .nil
theorem Wd.ov_names (o : Str) (w : Wd) : (w.ov o).names = o :: w.names := by
  show o :: (w.names ++ []) = _
  rw [List.append_nil]
theorem ov_par (o : Str) (w : Wd) : parO none (w.ov o) = (o, none) :: (parO none w).map fun x => (x.1, ovP o x.2) := by
  show (o, none) :: (parO (some o) w ++ []) = _
  rw [List.append_nil, show some o = ovP o none from rfl, parO_ov]
theorem prO_top (o : Str) (w : Wd) : prO (w.ov o) o = none := by
  unfold prO
  rw [ov_par, List.lookup_cons]
  simp
theorem prO_ov {o : Str} {w : Wd} {n : Str} (ho : o ∉ w.names) (hn : n ∈ w.names) : prO (w.ov o) n = ovP o (prO w n) := by
  unfold prO
  have ne : (n == o) = false := by simpa using fun e => ho (by rw [← e]; exact hn)
  rw [ov_par, List.lookup_cons, ne, lookup_map]
  obtain ⟨p, h1, _⟩ := lookup_mem (l := parO none w) (n := n) (by rw [parO_names]; exact hn)
  rw [h1]
  rfl
def ps2 (o : Str) (x : Str × Option Str) : Str × Option Str := (x.1, ovP o x.2)
def ps3 (o : Str) (e : LE) : LE := (e.1, ovP o e.2.1, e.2.2)
theorem styL_ov {o : Str} {w v : Wd} (hw : o ∉ w.names) (hv : o ∉ v.names) (hp : ∀ n ∈ w.names, n ∈ v.names) : styL (w.ov o) (v.ov o) = (o, none) :: (styL w v).map (ps2 o) := by
  unfold styL
  rw [Wd.ov_names, List.filter_cons, if_pos (by rw [prO_top, prO_top]; simp), List.map_cons, prO_top, List.map_map]
  congr 1
  have ef : w.names.filter (fun n => decide (prO (w.ov o) n = prO (v.ov o) n)) = w.names.filter fun n => decide (prO w n = prO v n) := by
    refine List.filter_congr fun n hn => ?_
    rw [prO_ov hw hn, prO_ov hv (hp n hn)]
    by_cases e : prO w n = prO v n
    · rw [decide_eq_true e, decide_eq_true (by rw [e])]
    · rw [decide_eq_false e, decide_eq_false fun z => e (ovP_inj (prO_ne hw hn) (prO_ne hv (hp n hn)) z)]
  rw [ef]
  refine List.map_congr_left fun n hn => ?_
  have hn := (List.mem_filter.mp hn).1
  show (n, prO (w.ov o) n) = (n, ovP o (prO w n))
  rw [prO_ov hw hn]
section
variable {ix ix' : Str → Nat} {Z : List Str} {o : Str}
theorem bstA_ov (h : ∀ z ∈ Z, ix' z = ix z + 1) {n : Str} (hn : n ∈ Z) : ∀ (gs : List LE) (b : Nat), (∀ e ∈ gs, e.1 ∈ Z) → bstA ix' n (gs.map (ps3 o)) b = bstA ix n gs b
  | [], b, _ => rfl
  | e :: gs, b, hg => by
    unfold bstA
    rw [List.map_cons, List.foldl_cons, List.foldl_cons]
    have e1 : (if ix' (ps3 o e).1 < ix' n ∧ b < (ps3 o e).2.2 then (ps3 o e).2.2 else b) = if ix e.1 < ix n ∧ b < e.2.2 then e.2.2 else b := by
      show (if ix' e.1 < ix' n ∧ b < e.2.2 then e.2.2 else b) = _
      rw [h n hn, h e.1 (hg e List.mem_cons_self)]
      by_cases c : ix e.1 < ix n ∧ b < e.2.2
      · rw [if_pos c, if_pos ⟨by omega, c.2⟩]
      · rw [if_neg c, if_neg (by omega)]
    rw [e1]
    exact bstA_ov h hn gs _ fun e he => hg e (List.mem_cons_of_mem _ he)
theorem grA_ov (L : List LE) (hL : ∀ e ∈ L, e.2.1 ≠ some o) {p : Option Str} (hp : p ≠ some o) : grA ((o, none, 1) :: L.map (ps3 o)) (ovP o p) = (grA L p).map (ps3 o) := by
  obtain ⟨z, hz⟩ := ovP_some o p
  unfold grA
  rw [List.filter_cons, if_neg (by rw [hz]; simp), List.filter_map]
  congr 1
  refine List.filter_congr fun e he => ?_
  show decide (ovP o e.2.1 = ovP o p) = decide (e.2.1 = p)
  by_cases c : e.2.1 = p
  · rw [decide_eq_true c, decide_eq_true (by rw [c])]
  · rw [decide_eq_false c, decide_eq_false fun y => c (ovP_inj (hL e he) hp y)]
theorem lngA_ov (h : ∀ z ∈ Z, ix' z = ix z + 1) : ∀ (S : List (Str × Option Str)) (acc : List LE), (∀ e ∈ acc, e.1 ∈ Z ∧ e.2.1 ≠ some o) → (∀ x ∈ S, x.1 ∈ Z ∧ x.2 ≠ some o) → lngA ix' ((o, none, 1) :: acc.map (ps3 o)) (S.map (ps2 o)) = (o, none, 1) :: (lngA ix acc S).map (ps3 o)
  | [], acc, _, _ => rfl
  | x :: S, acc, ha, hS => by
    obtain ⟨x1, x2⟩ := hS x List.mem_cons_self
    have ih := lngA_ov h S (acc ++ [(x.1, x.2, bstA ix x.1 (grA acc x.2) 0 + 1)]) (fun e he => by
      rcases List.mem_append.mp he with he | he
      · exact ha e he
      · rw [List.mem_singleton.mp he]; exact ⟨x1, x2⟩) fun y hy => hS y (List.mem_cons_of_mem _ hy)
    show lngA ix' (((o, none, 1) :: acc.map (ps3 o)) ++ [(x.1, ovP o x.2, bstA ix' x.1 (grA ((o, none, 1) :: acc.map (ps3 o)) (ovP o x.2)) 0 + 1)]) (S.map (ps2 o)) = _
    rw [grA_ov acc (fun e he => (ha e he).2) x2, bstA_ov h x1 (grA acc x.2) _ fun e he => (ha e (List.mem_filter.mp he).1).1]
    rw [List.map_append] at ih
    exact ih
theorem wmA_ov (L : List LE) (hL : ∀ e ∈ L, e.2.1 ≠ some o) {p : Option Str} (hp : p ≠ some o) : wmA ((o, none, 1) :: L.map (ps3 o)) (ovP o p) = wmA L p := by
  unfold wmA
  rw [grA_ov L hL hp, List.foldl_map]
  rfl
theorem wmA_top (L : List LE) : wmA ((o, none, 1) :: L.map (ps3 o)) none = 1 := by
  have : grA ((o, none, 1) :: L.map (ps3 o)) none = [(o, none, 1)] := by
    unfold grA
    rw [List.filter_cons, if_pos (by simp)]
    congr 1
    rw [List.filter_eq_nil_iff]
    intro e he
    obtain ⟨e0, _, rfl⟩ := List.mem_map.mp he
    obtain ⟨z, hz⟩ := ovP_some o e0.2.1
    show ¬ decide (ovP o e0.2.1 = none) = true
    rw [hz]
    simp
  unfold wmA
  rw [this]
  rfl
theorem rstA_ov (h : ∀ z ∈ Z, ix' z = ix z + 1) : ∀ (R : List LE) (W W' : Option Str → Nat × Nat), (∀ e ∈ R, e.1 ∈ Z ∧ e.2.1 ≠ some o) → (∀ p, p ≠ some o → W' (ovP o p) = ((W p).1, (W p).2 + 1)) → (W' none).1 = 1 → ix' o < (W' none).2 → rstA ix' W' (R.map (ps3 o) ++ [(o, none, 1)]) = rstA ix W R ++ [o]
  | [], W, W', _, _, h3, h4 => by
    show rstA ix' W' [(o, none, 1)] = [o]
    rw [rstA_pos ⟨h3.symm, h4⟩]
    rfl
  | e :: R, W, W', h1, h2, h3, h4 => by
    obtain ⟨e1, e2⟩ := h1 e List.mem_cons_self
    have hR : ∀ e ∈ R, e.1 ∈ Z ∧ e.2.1 ≠ some o := fun x hx => h1 x (List.mem_cons_of_mem _ hx)
    have hw := h2 e.2.1 e2
    rw [List.map_cons, List.cons_append]
    by_cases c : e.2.2 = (W e.2.1).1 ∧ ix e.1 < (W e.2.1).2
    · rw [rstA_pos c, rstA_pos (e := ps3 o e) (by
        show e.2.2 = (W' (ovP o e.2.1)).1 ∧ ix' e.1 < (W' (ovP o e.2.1)).2
        rw [hw, h e.1 e1]
        exact ⟨c.1, by have := c.2; simp only; omega⟩), List.cons_append]
      show e.1 :: _ = _
      congr 1
      refine rstA_ov h R _ _ hR (fun p hp => ?_) ?_ ?_
      · show (if ovP o p = ovP o e.2.1 then (e.2.2 - 1, ix' e.1) else W' (ovP o p)) = _
        by_cases cc : p = e.2.1
        · subst cc
          rw [if_pos rfl, h e.1 e1]
          simp
        · rw [if_neg fun z => cc (ovP_inj hp e2 z), h2 p hp]
          simp only [if_neg cc]
      · obtain ⟨z, hz⟩ := ovP_some o e.2.1
        show (if none = ovP o e.2.1 then _ else W' none).1 = 1
        rw [hz, if_neg nofun]; exact h3
      · obtain ⟨z, hz⟩ := ovP_some o e.2.1
        show ix' o < (if none = ovP o e.2.1 then _ else W' none).2
        rw [hz, if_neg nofun]; exact h4
    · rw [rstA_neg c, rstA_neg (e := ps3 o e) (by
        show ¬ (e.2.2 = (W' (ovP o e.2.1)).1 ∧ ix' e.1 < (W' (ovP o e.2.1)).2)
        rw [hw, h e.1 e1]
        simp only
        omega)]
      exact rstA_ov h R W W' hR h2 h3 h4
end
theorem lngA_mem {w v : Wd} {ix : Str → Nat} : ∀ e ∈ lngA ix [] (styL w v), e.1 ∈ w.names ∧ e.2.1 = prO w e.1 := fun e he => by
  have : (e.1, e.2.1) ∈ styL w v := by rw [← lngA_map ix (styL w v)]; exact List.mem_map.mpr ⟨e, he, rfl⟩
  unfold styL at this
  obtain ⟨n, hn, en⟩ := List.mem_map.mp this
  have e1 : n = e.1 := congrArg Prod.fst en
  have e2 : prO w n = e.2.1 := congrArg Prod.snd en
  subst e1
  exact ⟨(List.mem_filter.mp hn).1, e2.symm⟩
theorem rstW_ov {o : Str} {w v : Wd} (hw : o ∉ w.names) (hv : o ∉ v.names) (hp : ∀ n ∈ w.names, n ∈ v.names) : rstW (w.ov o) (v.ov o) = rstW w v ++ [o] := by
  have hix : ∀ z ∈ w.names, ixW (v.ov o) z = ixW v z + 1 := fun z hz => by
    unfold ixW
    rw [Wd.ov_names, List.idxOf_cons, show (o == z) = false from by simpa using fun e => hw (by rw [e]; exact hz)]
    rfl
  have io : ixW (v.ov o) o = 0 := by
    unfold ixW
    rw [Wd.ov_names, List.idxOf_cons]
    simp
  have hm : ∀ e ∈ lngA (ixW v) [] (styL w v), e.1 ∈ w.names ∧ e.2.1 ≠ some o := fun e he => by
    obtain ⟨h1, h2⟩ := lngA_mem e he
    exact ⟨h1, by rw [h2]; exact prO_ne hw h1⟩
  have hS : ∀ x ∈ styL w v, x.1 ∈ w.names ∧ x.2 ≠ some o := fun x hx => by
    unfold styL at hx
    obtain ⟨n, hn, rfl⟩ := List.mem_map.mp hx
    have hn := (List.mem_filter.mp hn).1
    exact ⟨hn, prO_ne hw hn⟩
  have eL : lngA (ixW (v.ov o)) [] (styL (w.ov o) (v.ov o)) = (o, none, 1) :: (lngA (ixW v) [] (styL w v)).map (ps3 o) := by
    rw [styL_ov hw hv hp]
    exact lngA_ov (ix := ixW v) (ix' := ixW (v.ov o)) (Z := w.names) hix (styL w v) [] (fun _ h => nomatch h) hS
  unfold rstW
  rw [eL, List.reverse_cons, ← List.map_reverse]
  refine rstA_ov (ix := ixW v) (Z := w.names) hix _ _ _ (fun e he => hm e (List.mem_reverse.mp he)) (fun p hp => ?_) (wmA_top _) ?_
  · show (wmA _ (ovP o p), _) = _
    rw [wmA_ov _ (fun e he => (hm e he).2) hp, Wd.ov_names]
    rfl
  · show ixW (v.ov o) o < (v.ov o).names.length
    rw [io, Wd.ov_names]
    exact Nat.succ_pos _
theorem lmvW_ov {o : Str} {w v : Wd} (hw : o ∉ w.names) (hv : o ∉ v.names) (hp : ∀ n ∈ w.names, n ∈ v.names) : lmvW (w.ov o) (v.ov o) = lmvW w v := by
  unfold lmvW
  rw [rstW_ov hw hv hp, Wd.ov_names, List.length_append]
  simp only [List.length_cons, List.length_nil]
  omega
end Tw

namespace Tw
open PySem PySem.Spec PyProof.Rows L2
/-! ### one parent alone -/
def ChP (ix : Str → Nat) : List LE → Prop
  | [] => True
  | x :: r => (2 ≤ x.2.2 → ∃ e ∈ r, e.2.2 + 1 = x.2.2 ∧ ix e.1 < ix x.1) ∧ ChP ix r
theorem bstA_ex (ix : Str → Nat) (n : Str) : ∀ (gs : List LE) (b : Nat), bstA ix n gs b = b ∨ ∃ e ∈ gs, e.2.2 = bstA ix n gs b ∧ ix e.1 < ix n
  | [], b => .inl rfl
  | e :: gs, b => by
    show bstA ix n gs (if ix e.1 < ix n ∧ b < e.2.2 then e.2.2 else b) = b ∨ ∃ x ∈ e :: gs, x.2.2 = bstA ix n gs (if ix e.1 < ix n ∧ b < e.2.2 then e.2.2 else b) ∧ ix x.1 < ix n
    by_cases c : ix e.1 < ix n ∧ b < e.2.2
    · rw [if_pos c]
      rcases bstA_ex ix n gs e.2.2 with h | ⟨x, hx, h⟩
      · exact .inr ⟨e, List.mem_cons_self, h.symm, c.1⟩
      · exact .inr ⟨x, List.mem_cons_of_mem _ hx, h⟩
    · rw [if_neg c]
      rcases bstA_ex ix n gs b with h | ⟨x, hx, h⟩
      · exact .inl h
      · exact .inr ⟨x, List.mem_cons_of_mem _ hx, h⟩
theorem grA_all {L : List LE} {p : Option Str} (h : ∀ e ∈ L, e.2.1 = p) : grA L p = L := List.filter_eq_self.mpr fun e he => decide_eq_true (h e he)
theorem lngA_ch {ix : Str → Nat} {p : Option Str} : ∀ (S : List (Str × Option Str)) (acc : List LE), (∀ e ∈ acc, e.2.1 = p) → (∀ x ∈ S, x.2 = p) → ChP ix acc.reverse → ChP ix (lngA ix acc S).reverse
  | [], acc, _, _, h => h
  | x :: S, acc, ha, hS, h => by
    unfold lngA
    have hx : x.2 = p := hS x List.mem_cons_self
    refine lngA_ch S _ (fun e he => ?_) (fun y hy => hS y (List.mem_cons_of_mem _ hy)) ?_
    · rcases List.mem_append.mp he with he | he
      · exact ha e he
      · rw [List.mem_singleton.mp he]; exact hx
    · rw [List.reverse_append]
      refine ⟨fun h2 => ?_, h⟩
      rcases bstA_ex ix x.1 (grA acc x.2) 0 with h0 | ⟨e, he, h3, h4⟩
      · have h2 : 2 ≤ bstA ix x.1 (grA acc x.2) 0 + 1 := h2
        omega
      · exact ⟨e, List.mem_reverse.mpr (List.mem_filter.mp he).1, by show e.2.2 + 1 = bstA ix x.1 (grA acc x.2) 0 + 1; omega, h4⟩
theorem rstA_len {ix : Str → Nat} {p : Option Str} : ∀ (R : List LE) (W : Option Str → Nat × Nat), (∀ e ∈ R, e.2.1 = p) → (∀ e ∈ R, 1 ≤ e.2.2) → ChP ix R → (1 ≤ (W p).1 → ∃ e ∈ R, e.2.2 = (W p).1 ∧ ix e.1 < (W p).2) → (rstA ix W R).length = (W p).1
  | [], W, _, _, _, h => by
    show 0 = (W p).1
    rcases Nat.eq_zero_or_pos (W p).1 with z | z
    · exact z.symm
    · obtain ⟨e, he, _⟩ := h z; cases he
  | e :: R, W, h1, h2, h3, h4 => by
    have ep := h1 e List.mem_cons_self
    have e1 := h2 e List.mem_cons_self
    have hR1 : ∀ e ∈ R, e.2.1 = p := fun x hx => h1 x (List.mem_cons_of_mem _ hx)
    have hR2 : ∀ e ∈ R, 1 ≤ e.2.2 := fun x hx => h2 x (List.mem_cons_of_mem _ hx)
    by_cases c : e.2.2 = (W e.2.1).1 ∧ ix e.1 < (W e.2.1).2
    · rw [rstA_pos c, List.length_cons, rstA_len R _ hR1 hR2 h3.2]
      · rw [if_pos ep.symm]
        rw [ep] at c
        simp only
        omega
      · rw [if_pos ep.symm]
        intro hz
        have hz : 1 ≤ e.2.2 - 1 := hz
        obtain ⟨x, hx, hx1, hx2⟩ := h3.1 (by omega)
        exact ⟨x, hx, by show x.2.2 = e.2.2 - 1; omega, hx2⟩
    · rw [rstA_neg c]
      refine rstA_len R W hR1 hR2 h3.2 fun hz => ?_
      obtain ⟨x, hx, hx1, hx2⟩ := h4 hz
      rcases List.mem_cons.mp hx with rfl | hx
      · rw [ep] at c; exact absurd ⟨hx1, hx2⟩ c
      · exact ⟨x, hx, hx1, hx2⟩
theorem wmF_ge : ∀ (gs : List LE) (b : Nat), b ≤ gs.foldl (fun b e => if b < e.2.2 then e.2.2 else b) b ∧ ∀ e ∈ gs, e.2.2 ≤ gs.foldl (fun b e => if b < e.2.2 then e.2.2 else b) b
  | [], b => ⟨Nat.le_refl _, fun _ h => nomatch h⟩
  | e :: gs, b => by
    rw [List.foldl_cons]
    obtain ⟨h1, h2⟩ := wmF_ge gs (if b < e.2.2 then e.2.2 else b)
    by_cases c : b < e.2.2
    · rw [if_pos c] at h1 h2 ⊢
      refine ⟨by omega, fun x hx => ?_⟩
      rcases List.mem_cons.mp hx with rfl | hx
      · exact h1
      · exact h2 x hx
    · rw [if_neg c] at h1 h2 ⊢
      refine ⟨h1, fun x hx => ?_⟩
      rcases List.mem_cons.mp hx with rfl | hx
      · omega
      · exact h2 x hx
theorem wmF_ex : ∀ (gs : List LE) (b : Nat), gs.foldl (fun b e => if b < e.2.2 then e.2.2 else b) b = b ∨ ∃ e ∈ gs, e.2.2 = gs.foldl (fun b e => if b < e.2.2 then e.2.2 else b) b
  | [], b => .inl rfl
  | e :: gs, b => by
    rw [List.foldl_cons]
    by_cases c : b < e.2.2
    · rw [if_pos c]
      rcases wmF_ex gs e.2.2 with h | ⟨x, hx, h⟩
      · exact .inr ⟨e, List.mem_cons_self, h.symm⟩
      · exact .inr ⟨x, List.mem_cons_of_mem _ hx, h⟩
    · rw [if_neg c]
      rcases wmF_ex gs b with h | ⟨x, hx, h⟩
      · exact .inl h
      · exact .inr ⟨x, List.mem_cons_of_mem _ hx, h⟩
theorem wmA_eq {L : List LE} {p : Option Str} {M : Nat} (h : ∀ e ∈ L, e.2.1 = p) (h1 : ∀ e ∈ L, e.2.2 ≤ M) (h2 : ∃ e ∈ L, e.2.2 = M) : wmA L p = M := by
  unfold wmA
  rw [grA_all h]
  obtain ⟨e, he, eM⟩ := h2
  have a := (wmF_ge L 0).2 e he
  rcases wmF_ex L 0 with b | ⟨x, hx, b⟩
  · have := h1 e he; omega
  · have := h1 x hx; omega
/-- all names have one parent: as many rest as the longest row -/
theorem one_len {ix : Str → Nat} {p : Option Str} {V : Nat} (S : List (Str × Option Str)) (hS : ∀ x ∈ S, x.2 = p) (hV : ∀ x ∈ S, ix x.1 < V) :
    (rstA ix (fun q => (wmA (lngA ix [] S) q, V)) (lngA ix [] S).reverse).length = wmA (lngA ix [] S) p := by
  have hm : ∀ e ∈ lngA ix [] S, (e.1, e.2.1) ∈ S := fun e he => by
    rw [← lngA_map ix S]
    exact List.mem_map.mpr ⟨e, he, rfl⟩
  have hp : ∀ e ∈ lngA ix [] S, e.2.1 = p := fun e he => hS _ (hm e he)
  refine rstA_len (p := p) _ _ (fun e he => hp e (List.mem_reverse.mp he)) (fun e he => lngA_pos ix S [] (fun _ h => nomatch h) e (List.mem_reverse.mp he)) (lngA_ch S [] (fun _ h => nomatch h) hS trivial) fun hz => ?_
  have hz : 1 ≤ wmA (lngA ix [] S) p := hz
  show ∃ e ∈ (lngA ix [] S).reverse, e.2.2 = wmA (lngA ix [] S) p ∧ ix e.1 < V
  unfold wmA at hz ⊢
  rw [grA_all hp] at hz ⊢
  rcases wmF_ex (lngA ix [] S) 0 with h | ⟨x, hx, h⟩
  · rw [h] at hz; exact absurd hz (by omega)
  · exact ⟨x, List.mem_reverse.mpr hx, h, hV _ (hm x hx)⟩
/-! rows that go down, rows that go up -/
theorem bstA_none {ix : Str → Nat} {n : Str} : ∀ (X : List LE) (b : Nat), (∀ e ∈ X, ¬ ix e.1 < ix n) → bstA ix n X b = b
  | [], b, _ => rfl
  | e :: X, b, h => by
    show bstA ix n X (if ix e.1 < ix n ∧ b < e.2.2 then e.2.2 else b) = b
    rw [if_neg fun z => h e List.mem_cons_self z.1]
    exact bstA_none X b fun x hx => h x (List.mem_cons_of_mem _ hx)
theorem bstA_ge {ix : Str → Nat} {n : Str} : ∀ (X : List LE) (b : Nat), b ≤ bstA ix n X b ∧ ∀ e ∈ X, ix e.1 < ix n → e.2.2 ≤ bstA ix n X b
  | [], b => ⟨Nat.le_refl _, fun _ h => nomatch h⟩
  | e :: X, b => by
    show b ≤ bstA ix n X (if ix e.1 < ix n ∧ b < e.2.2 then e.2.2 else b) ∧ ∀ x ∈ e :: X, ix x.1 < ix n → x.2.2 ≤ bstA ix n X (if ix e.1 < ix n ∧ b < e.2.2 then e.2.2 else b)
    obtain ⟨h1, h2⟩ := bstA_ge (ix := ix) (n := n) X (if ix e.1 < ix n ∧ b < e.2.2 then e.2.2 else b)
    by_cases c : ix e.1 < ix n ∧ b < e.2.2
    · rw [if_pos c] at h1 h2 ⊢
      refine ⟨by omega, fun x hx hl => ?_⟩
      rcases List.mem_cons.mp hx with rfl | hx
      · exact h1
      · exact h2 x hx hl
    · rw [if_neg c] at h1 h2 ⊢
      refine ⟨h1, fun x hx hl => ?_⟩
      rcases List.mem_cons.mp hx with rfl | hx
      · have : ¬ b < x.2.2 := fun y => c ⟨hl, y⟩
        omega
      · exact h2 x hx hl
theorem lngA_down {ix : Str → Nat} {p : Option Str} : ∀ (ms : List Str) (acc : List LE), (∀ e ∈ acc, ∀ m ∈ ms, ¬ ix e.1 < ix m) → ms.Pairwise (fun a b => ¬ ix a < ix b) → lngA ix acc (ms.map fun m => (m, p)) = acc ++ ms.map fun m => (m, p, 1)
  | [], acc, _, _ => (List.append_nil _).symm
  | m :: ms, acc, h, pw => by
    rw [List.pairwise_cons] at pw
    show lngA ix (acc ++ [(m, p, bstA ix m (grA acc p) 0 + 1)]) (ms.map fun m => (m, p)) = _
    rw [bstA_none (grA acc p) 0 fun e he => h e (List.mem_filter.mp he).1 m List.mem_cons_self, lngA_down ms _ (fun e he x hx => ?_) pw.2, List.append_assoc]
    · rfl
    · rcases List.mem_append.mp he with he | he
      · exact h e he x (List.mem_cons_of_mem _ hx)
      · rw [List.mem_singleton.mp he]; exact pw.1 x hx
theorem lngA_up {ix : Str → Nat} {p : Option Str} : ∀ (ms : List Str) (X Y : List LE) (j : Nat), (∀ e ∈ X, ∀ m ∈ ms, ¬ ix e.1 < ix m) → (∀ e ∈ Y, e.2.1 = p ∧ e.2.2 ≤ j ∧ ∀ m ∈ ms, ix e.1 < ix m) → (j = 0 ∨ ∃ e ∈ Y, e.2.2 = j) → ms.Pairwise (fun a b => ix a < ix b) →
    lngA ix (X ++ Y) (ms.map fun m => (m, p)) = X ++ Y ++ (ms.zipIdx (j + 1)).map fun q => (q.1, p, q.2)
  | [], X, Y, j, _, _, _, _ => (List.append_nil _).symm
  | m :: ms, X, Y, j, hX, hY, hj, pw => by
    rw [List.pairwise_cons] at pw
    show lngA ix (X ++ Y ++ [(m, p, bstA ix m (grA (X ++ Y) p) 0 + 1)]) (ms.map fun m => (m, p)) = _
    have eb : bstA ix m (grA (X ++ Y) p) 0 = j := by
      unfold grA
      rw [List.filter_append]
      have e1 : bstA ix m (X.filter (fun e => decide (e.2.1 = p)) ++ Y.filter fun e => decide (e.2.1 = p)) 0 = bstA ix m (Y.filter fun e => decide (e.2.1 = p)) (bstA ix m (X.filter fun e => decide (e.2.1 = p)) 0) := List.foldl_append
      rw [e1, bstA_none _ _ fun e he => hX e (List.mem_filter.mp he).1 m List.mem_cons_self]
      have eY : Y.filter (fun e => decide (e.2.1 = p)) = Y := List.filter_eq_self.mpr fun e he => decide_eq_true (hY e he).1
      rw [eY]
      have le := bstA_le ix m j Y 0 (Nat.zero_le _) fun e he => (hY e he).2.1
      rcases hj with rfl | ⟨e, he, ej⟩
      · omega
      · have := (bstA_ge (ix := ix) (n := m) Y 0).2 e he ((hY e he).2.2 m List.mem_cons_self)
        omega
    rw [eb, List.append_assoc X, lngA_up ms X (Y ++ [(m, p, j + 1)]) (j + 1) (fun e he x hx => hX e he x (List.mem_cons_of_mem _ hx)) (fun e he => ?_) (.inr ⟨(m, p, j + 1), List.mem_append_right _ List.mem_cons_self, rfl⟩) pw.2]
    · rw [List.zipIdx_cons, List.map_cons, ← List.append_assoc, List.append_assoc (X ++ Y)]
      rfl
    · rcases List.mem_append.mp he with he | he
      · exact ⟨(hY e he).1, by have := (hY e he).2.1; omega, fun x hx => (hY e he).2.2 x (List.mem_cons_of_mem _ hx)⟩
      · rw [List.mem_singleton.mp he]
        exact ⟨rfl, Nat.le_refl _, pw.1⟩
theorem lngA_app (ix : Str → Nat) : ∀ (S T : List (Str × Option Str)) (acc : List LE), lngA ix acc (S ++ T) = lngA ix (lngA ix acc S) T
  | [], T, acc => rfl
  | x :: S, T, acc => lngA_app ix S T _
theorem idx_pw : ∀ {l : List Str}, l.Nodup → l.Pairwise (fun a b => l.idxOf a < l.idxOf b)
  | [], _ => List.Pairwise.nil
  | a :: l, nd => by
    rw [List.nodup_cons] at nd
    have ne : ∀ b ∈ l, (a == b) = false := fun b hb => by simpa using fun e => nd.1 (by rw [e]; exact hb)
    have sh : ∀ b ∈ l, (a :: l).idxOf b = l.idxOf b + 1 := fun b hb => by rw [List.idxOf_cons, ne b hb]; rfl
    refine List.Pairwise.cons (fun b hb => ?_) ?_
    · rw [sh b hb, List.idxOf_cons]; simp
    · exact (idx_pw nd.2).imp_of_mem fun {b c} hb hc h => by rw [sh b hb, sh c hc]; omega
end Tw

namespace Tw
open PySem PySem.Spec PyProof.Rows L2
/-! ### rows of roots, chains -/
def rowW' : List Str → Wd
  | [] => .nil
  | n :: r => .cons n .nil (rowW' r)
def chnW : List Str → Wd
  | [] => .nil
  | n :: r => .cons n (chnW r) .nil
theorem rowW'_names : ∀ ns, (rowW' ns).names = ns
  | [] => rfl
  | n :: r => by show n :: ([] ++ (rowW' r).names) = _; rw [rowW'_names r]; rfl
theorem chnW_names : ∀ ns, (chnW ns).names = ns
  | [] => rfl
  | n :: r => by show n :: ((chnW r).names ++ []) = _; rw [chnW_names r, List.append_nil]
theorem row_par (p : Option Str) : ∀ ns, parO p (rowW' ns) = ns.map fun n => (n, p)
  | [] => rfl
  | n :: r => by show (n, p) :: ([] ++ parO p (rowW' r)) = _; rw [row_par p r]; rfl
theorem prO_row {ns : List Str} {n : Str} (h : n ∈ ns) : prO (rowW' ns) n = none := by
  have := prO_mem (w := rowW' ns) (n := n) (by rw [rowW'_names]; exact h)
  rw [row_par] at this
  obtain ⟨m, _, e⟩ := List.mem_map.mp this
  exact (congrArg Prod.snd e).symm
theorem styL_row {ns ms : List Str} (h : ∀ n ∈ ns, n ∈ ms) : styL (rowW' ns) (rowW' ms) = ns.map fun n => (n, none) := by
  unfold styL
  rw [rowW'_names, List.filter_eq_self.mpr fun n hn => by rw [prO_row hn, prO_row (h n hn)]; simp]
  exact List.map_congr_left fun n hn => by rw [prO_row hn]
theorem rst_row {ns ms : List Str} (h : ∀ n ∈ ns, n ∈ ms) : (rstW (rowW' ns) (rowW' ms)).length = wmA (lngA (fun z => ms.idxOf z) [] (ns.map fun n => (n, none))) none := by
  unfold rstW
  rw [styL_row h]
  have e : ixW (rowW' ms) = fun z => ms.idxOf z := by funext z; unfold ixW; rw [rowW'_names]
  rw [e, rowW'_names]
  refine one_len (p := none) _ (fun x hx => ?_) fun x hx => ?_
  · obtain ⟨n, _, rfl⟩ := List.mem_map.mp hx; rfl
  · obtain ⟨n, hn, rfl⟩ := List.mem_map.mp hx; exact List.idxOf_lt_length_of_mem (h n hn)
theorem lmv_rev {ns : List Str} (nd : ns.Nodup) (h0 : ns ≠ []) : lmvW (rowW' ns) (rowW' ns.reverse) = ns.length - 1 := by
  unfold lmvW
  rw [rst_row (fun n hn => List.mem_reverse.mpr hn), rowW'_names]
  have pw : ns.Pairwise (fun a b => ¬ ns.reverse.idxOf a < ns.reverse.idxOf b) := by
    have := idx_pw (l := ns.reverse) ((List.reverse_perm ns).nodup_iff.mpr nd)
    rw [List.pairwise_reverse] at this
    exact this.imp fun h => by omega
  rw [lngA_down ns [] (fun _ h => nomatch h) pw, List.nil_append]
  have : wmA (ns.map fun m => ((m, none, 1) : LE)) none = 1 := by
    refine wmA_eq (fun e he => ?_) (fun e he => ?_) ?_
    · obtain ⟨n, _, rfl⟩ := List.mem_map.mp he; rfl
    · obtain ⟨n, _, rfl⟩ := List.mem_map.mp he; exact Nat.le_refl _
    · cases ns with
      | nil => exact absurd rfl h0
      | cons a r => exact ⟨(a, none, 1), List.mem_cons_self, rfl⟩
  rw [this]
  rfl
theorem lmv_rot {as bs : List Str} (nd : (as ++ bs).Nodup) : lmvW (rowW' (as ++ bs)) (rowW' (bs ++ as)) = (min as.length bs.length : Nat) := by
  unfold lmvW
  rw [rst_row (fun n hn => by rw [List.mem_append] at hn ⊢; exact hn.symm), rowW'_names]
  have pw := idx_pw (l := bs ++ as) (List.perm_append_comm.nodup_iff.mp nd)
  rw [List.pairwise_append] at pw
  obtain ⟨pb, pa, pba⟩ := pw
  rw [List.map_append, lngA_app]
  have e1 := lngA_up (ix := fun z => (bs ++ as).idxOf z) (p := none) as [] [] 0 (fun _ h => nomatch h) (fun _ h => nomatch h) (.inl rfl) pa
  rw [List.nil_append, List.nil_append] at e1
  rw [e1]
  have e2 := lngA_up (ix := fun z => (bs ++ as).idxOf z) (p := none) bs ((as.zipIdx (0 + 1)).map fun q => (q.1, none, q.2)) [] 0 (fun e he m hm => by
    obtain ⟨q, hq, rfl⟩ := List.mem_map.mp he
    have := pba m hm q.1 (by
      have := List.mem_map.mpr (⟨q, hq, rfl⟩ : ∃ x ∈ as.zipIdx (0 + 1), x.1 = q.1)
      rw [List.zipIdx_map_fst] at this
      exact this)
    show ¬ (bs ++ as).idxOf q.1 < (bs ++ as).idxOf m
    omega) (fun _ h => nomatch h) (.inl rfl) pb
  rw [List.append_nil] at e2
  rw [e2]
  have zi : ∀ (l : List Str) (q : Str × Nat), q ∈ l.zipIdx (0 + 1) → 1 ≤ q.2 ∧ q.2 ≤ l.length := fun l q hq => by
    have := List.snd_lt_add_of_mem_zipIdx hq
    have := List.le_snd_of_mem_zipIdx hq
    omega
  have zl : ∀ (l : List Str), l ≠ [] → ∃ q ∈ l.zipIdx (0 + 1), q.2 = l.length := fun l hl => by
    have l1 : 0 < l.length := List.length_pos_iff.mpr hl
    refine ⟨((l.zipIdx (0 + 1))[l.length - 1]'(by rw [List.length_zipIdx]; omega)), List.getElem_mem _, ?_⟩
    rw [List.getElem_zipIdx]
    simp only
    omega
  by_cases h0 : as = [] ∧ bs = []
  · rw [h0.1, h0.2]; rfl
  have : wmA ((as.zipIdx (0 + 1)).map (fun q => ((q.1, none, q.2) : LE)) ++ (bs.zipIdx (0 + 1)).map fun q => (q.1, none, q.2)) none = max as.length bs.length := by
    refine wmA_eq (fun e he => ?_) (fun e he => ?_) ?_
    · rcases List.mem_append.mp he with he | he <;> (obtain ⟨q, _, rfl⟩ := List.mem_map.mp he; rfl)
    · rcases List.mem_append.mp he with he | he
      · obtain ⟨q, hq, rfl⟩ := List.mem_map.mp he
        have := zi as q hq
        show q.2 ≤ _
        omega
      · obtain ⟨q, hq, rfl⟩ := List.mem_map.mp he
        have := zi bs q hq
        show q.2 ≤ _
        omega
    · by_cases hb : as.length ≤ bs.length
      · obtain ⟨q, hq, e⟩ := zl bs (fun z => h0 ⟨List.length_eq_zero_iff.mp (by rw [z] at hb; simpa using hb), z⟩)
        exact ⟨(q.1, none, q.2), List.mem_append_right _ (List.mem_map.mpr ⟨q, hq, rfl⟩), by show q.2 = _; omega⟩
      · obtain ⟨q, hq, e⟩ := zl as (fun z => by rw [z] at hb; exact hb (Nat.zero_le _))
        exact ⟨(q.1, none, q.2), List.mem_append_left _ (List.mem_map.mpr ⟨q, hq, rfl⟩), by show q.2 = _; omega⟩
  rw [this, List.length_append]
  omega
theorem chn_look : ∀ (X : List Str) (n : Str) (Y : List Str) (p : Option Str), n ∉ X → (parO p (chnW (X ++ n :: Y))).lookup n = some (X.getLast?.or p)
  | [], n, Y, p, _ => by
    show ((n, p) :: (parO (some n) (chnW Y) ++ [])).lookup n = some p
    rw [List.lookup_cons]
    simp
  | x :: X, n, Y, p, h => by
    show ((x, p) :: (parO (some x) (chnW (X ++ n :: Y)) ++ [])).lookup n = _
    rw [List.mem_cons, not_or] at h
    rw [List.lookup_cons, show (n == x) = false from by simpa using h.1, List.append_nil, chn_look X n Y (some x) h.2]
    cases X with
    | nil => rfl
    | cons y X =>
      rw [List.getLast?_cons_cons]
      cases e : (y :: X).getLast? with
      | none => simp at e
      | some z => rfl
theorem prO_chn {X : List Str} {n : Str} {Y : List Str} (h : n ∉ X) : prO (chnW (X ++ n :: Y)) n = X.getLast? := by
  unfold prO
  rw [chn_look X n Y none h]
  cases X.getLast? <;> rfl
theorem lmv_small {w v : Wd} {a : Str} (h : styL w v = [(a, none)]) (ha : a ∈ v.names) : lmvW w v = w.names.length - 1 := by
  unfold lmvW rstW
  rw [h]
  have e : lngA (ixW v) [] [(a, none)] = [(a, none, 1)] := rfl
  rw [e]
  have e2 : rstA (ixW v) (fun p => (wmA [(a, none, 1)] p, v.names.length)) [(a, none, 1)].reverse = [a] := by
    show rstA _ _ [(a, none, 1)] = _
    rw [rstA_pos ⟨rfl, List.idxOf_lt_length_of_mem ha⟩]
    rfl
  rw [e2]
  rfl
theorem lmv_none {w v : Wd} (h : styL w v = []) : lmvW w v = w.names.length := by
  unfold lmvW rstW
  rw [h]
  show (w.names.length : Int) - (0 : Nat) = _
  omega
theorem chn_split {n : Str} {ns : List Str} (h : n ∈ ns) (nd : ns.Nodup) : ∃ X Y, ns = X ++ n :: Y ∧ n ∉ X ∧ n ∉ Y := by
  obtain ⟨X, Y, rfl⟩ := List.append_of_mem h
  rw [List.nodup_append, List.nodup_cons] at nd
  exact ⟨X, Y, rfl, fun z => nd.2.2 n z n List.mem_cons_self rfl, nd.2.1.1⟩
theorem lmv_chn {ns : List Str} (nd : ns.Nodup) (h0 : ns ≠ []) : lmvW (chnW ns) (chnW ns.reverse) = ns.length * (if 1 < ns.length then 1 else 0) := by
  cases ns with
  | nil => exact absurd rfl h0
  | cons a r =>
    cases r with
    | nil =>
      rw [lmv_small (a := a) (by show styL (chnW [a]) (chnW [a]) = _; unfold styL; simp [chnW, Wd.names, prO, parO]) (by show a ∈ (chnW [a]).names; rw [chnW_names]; exact List.mem_cons_self), chnW_names]
      rfl
    | cons b r =>
      rw [lmv_none, chnW_names, if_pos (by simp)]
      · omega
      · unfold styL
        rw [List.map_eq_nil_iff, List.filter_eq_nil_iff]
        intro n hn he
        rw [chnW_names] at hn
        obtain ⟨X, Y, e, hX, hY⟩ := chn_split hn nd
        have he : prO (chnW (a :: b :: r)) n = prO (chnW (a :: b :: r).reverse) n := of_decide_eq_true he
        rw [e] at he nd
        rw [List.reverse_append, List.reverse_cons, List.append_assoc, List.singleton_append, prO_chn hX, prO_chn (fun z => hY (List.mem_reverse.mp z)), List.getLast?_reverse] at he
        cases Y with
        | nil =>
          rw [List.head?_nil, List.getLast?_eq_none_iff] at he
          rw [he] at e
          cases e
        | cons y Y =>
          rw [List.head?_cons] at he
          have hy : y ∈ X := List.mem_of_getLast? he
          rw [List.nodup_append] at nd
          exact nd.2.2 y hy y (List.mem_cons_of_mem _ List.mem_cons_self) rfl
theorem chn_first {a : Str} {r : List Str} {n : Str} (nd : (a :: r).Nodup) (h : n ∈ a :: r) : prO (chnW (a :: r)) n = none ↔ n = a := by
  obtain ⟨X, Y, e, hX, hY⟩ := chn_split h nd
  rw [e, prO_chn hX, List.getLast?_eq_none_iff]
  cases X with
  | nil => injection e with e1 e2; exact ⟨fun _ => e1.symm, fun _ => rfl⟩
  | cons x X =>
    injection e with e1 e2
    subst e1
    refine ⟨fun z => (nomatch z), fun z => ?_⟩
    exact absurd (by rw [z]; exact List.mem_cons_self) hX
theorem filter_one {a : Str} {r : List Str} (nd : (a :: r).Nodup) {P : Str → Bool} (h : ∀ n ∈ a :: r, P n = true ↔ n = a) : (a :: r).filter P = [a] := by
  rw [List.nodup_cons] at nd
  rw [List.filter_cons, if_pos ((h a List.mem_cons_self).mpr rfl), List.filter_eq_nil_iff.mpr fun n hn z => ?_]
  have := (h n (List.mem_cons_of_mem _ hn)).mp z
  exact nd.1 (by rw [← this]; exact hn)
theorem lmv_cr {ns : List Str} (nd : ns.Nodup) (h0 : ns ≠ []) : lmvW (chnW ns) (rowW' ns) = ns.length - 1 ∧ lmvW (rowW' ns) (chnW ns) = ns.length - 1 := by
  cases ns with
  | nil => exact absurd rfl h0
  | cons a r =>
    have c : ∀ n ∈ a :: r, decide (prO (chnW (a :: r)) n = prO (rowW' (a :: r)) n) = true ↔ n = a := fun n hn => by
      rw [decide_eq_true_eq, prO_row hn, chn_first nd hn]
    have c2 : ∀ n ∈ a :: r, decide (prO (rowW' (a :: r)) n = prO (chnW (a :: r)) n) = true ↔ n = a := fun n hn => by
      rw [decide_eq_true_eq, prO_row hn, eq_comm, chn_first nd hn]
    refine ⟨?_, ?_⟩
    · rw [lmv_small (a := a) (by
        unfold styL
        rw [chnW_names, filter_one nd c, List.map_cons, (chn_first nd List.mem_cons_self).mpr rfl]; rfl) (by rw [rowW'_names]; exact List.mem_cons_self), chnW_names]
    · rw [lmv_small (a := a) (by
        unfold styL
        rw [rowW'_names, filter_one nd c2, List.map_cons, prO_row List.mem_cons_self]; rfl) (by rw [chnW_names]; exact List.mem_cons_self), rowW'_names]
end Tw

namespace Tw
open PySem PySem.Spec PyProof.Rows L2
/-! ### the law's chains; lists made in place -/
theorem revL_at {m : ME} {env : Env} {te : List A} {xs : List Dt} (h : m env te = .ok (.own (.l xs)) env) : mU revLA m env te = .ok (.own (.l xs.reverse)) env := by
  show (m env te).bind _ = _
  rw [h, zq00]
  rfl
theorem revLd_at {m : ME} {env : Env} {te : List A} {xs : List Dt} (h : m env te = .ok (.d (.list xs)) env) : mU revLA m env te = .ok (.own (.l xs.reverse)) env := by
  show (m env te).bind _ = _
  rw [h, zq00]
  rfl
theorem Ev.rev {m : ME} {env : Env} {xs : List Dt} (h : Ev m env (.tuple xs)) : Ev (mU revA m) env (.tuple xs.reverse) := fun te => by
  show (m env te).bind _ = _
  rw [h, zq00]
  rfl
theorem lenL_at {m : ME} {env : Env} {te : List A} {xs : List Dt} (h : m env te = .ok (.own (.l xs)) env) : mCB (one lenA) (mCons m mNil) env te = .ok (.d (.int (xs.length : Nat))) env := by
  show Rs.bind (mCons m mNil env te) _ = _
  have c : mCons m mNil env te = .ok [.own (.l xs)] env := by
    rw [ev_mCons, h, zq00, ek_mCons_0]
    rfl
  rw [c, zq00]
  rfl
theorem tupL_at {m : ME} {env : Env} {te : List A} {xs : List Dt} (h : m env te = .ok (.own (.l xs)) env) : mCB (one tupA) (mCons m mNil) env te = .ok (.d (.tuple xs)) env := by
  show Rs.bind (mCons m mNil env te) _ = _
  have c : mCons m mNil env te = .ok [.own (.l xs)] env := by
    rw [ev_mCons, h, zq00, ek_mCons_0]
    rfl
  rw [c, zq00]
  rfl
theorem chainL_fn (ns : List Str) (hl : ns.length ≤ 10000) : f_chainL [.d (.list (ns.map .str))] = .ok (.d (.tuple (chnW ns).data)) [.d (.list (ns.map .str))] := by
  suffices h : DOk (fun r ios => r = .d (.tuple (chnW ns).data) ∧ ios = [.d (.list (ns.map .str))]) (f_chainL [.d (.list (ns.map .str))]) by
    obtain ⟨a, ios, e, rfl, rfl⟩ := h.ex
    exact e
  unfold f_chainL
  refine run_ok ?_
  unfold m_chainL
  refine FP.st (e := [some (.d (.list (ns.map .str))), some (.d (.tuple [])), none]) (Asg.pl (a := .d (.tuple [])) rfl rfl (by decide : 1 < 3) rfl (.inl ⟨_, rfl⟩)) ?_
  refine FP.sq ?_
  refine fp_for (as := [.d (.list (ns.reverse.map .str))]) (rd := fun _ => some (ns.reverse.map .str)) (xs := ns.reverse.map .str) (e := [some (.d (.list (ns.map .str))), some (.d (.tuple [])), none])
    (fun r e => ∃ (ms ds : List Str) (y : Option Dt), r = ms.map .str ∧ ns = ms.reverse ++ ds ∧ e = [some (.d (.list (ns.map .str))), some (.d (.tuple (chnW ds).data)), od y])
    (seqI_lst (fun te => mD_ownl (by rw [List.map_reverse]; exact revLd_at (Ev.v rfl te)))) ⟨ns.reverse, [], none, rfl, by rw [List.reverse_reverse, List.append_nil], rfl⟩ (fun _ _ _ => rfl) ?_ ?_
  · rintro x r e ⟨ms, ds, y, h1, h2, rfl⟩
    cases ms with
    | nil => cases h1
    | cons m ms =>
      rw [List.map_cons] at h1
      injection h1 with e1 e2
      subst e1 e2
      refine ⟨[some (.d (.list (ns.map .str))), some (.d (.tuple (chnW ds).data)), some (.d (.str m))], by cases y <;> rfl, ?_⟩
      refine FP.en (e := [some (.d (.list (ns.map .str))), some (.d (.tuple (chnW (m :: ds)).data)), some (.d (.str m))]) ?_ ⟨ms, m :: ds, some (.str m), rfl, by rw [h2, List.reverse_cons, List.append_assoc]; rfl, rfl⟩
      have t2 : Ev (mTup (mCons (mTup (mCons (mD (mVar 2)) (mCons (mD (mVar 1)) mNil))) mNil)) [some (.d (.list (ns.map .str))), some (.d (.tuple (chnW ds).data)), some (.d (.str m))] (.tuple [.tuple [.str m, .tuple (chnW ds).data]]) :=
        Ev.tup (Evs.cons (Ev.tup (Evs.two (Ev.d (Ev.v (i := 2) rfl)) (Ev.d (Ev.v (i := 1) rfl))) (Nat.le_of_ble_eq_true rfl)) Evs.nil) (Nat.le_of_ble_eq_true rfl)
      exact Asg.pl (t2 _) rfl (by decide : 1 < 3) rfl (.inl ⟨_, rfl⟩)
  · rintro e ⟨ms, ds, y, h1, h2, rfl⟩
    cases ms with
    | cons _ _ => cases h1
    | nil =>
      have h2 : ns = ds := h2
      subst h2
      exact FP.ret (a := .d (.tuple (chnW ns).data)) rfl ⟨_, rfl, rfl, rfl⟩
theorem rowW'_data : ∀ ns : List Str, (rowW' ns).data = ns.map fun n => PyData.tuple [.str n, .tuple []]
  | [] => rfl
  | n :: r => by
    show PyData.tuple [.str n, .tuple []] :: (rowW' r).data = _
    rw [rowW'_data r]
    rfl
theorem WdH.row {ns : List Str} (hl : ns.length ≤ 10000) (nm : ∀ z ∈ ns, IsNm z) (nd : ns.Nodup) : WdH (rowW' ns) := ⟨by rw [← Wd.size_names, rowW'_names]; exact hl, by rw [rowW'_names]; exact nm, by rw [rowW'_names]; exact nd⟩
theorem WdH.chn {ns : List Str} (hl : ns.length ≤ 10000) (nm : ∀ z ∈ ns, IsNm z) (nd : ns.Nodup) : WdH (chnW ns) := ⟨by rw [← Wd.size_names, chnW_names]; exact hl, by rw [chnW_names]; exact nm, by rw [chnW_names]; exact nd⟩
theorem WdH.ov {o : Str} {w : Wd} (h : WdH w) (hl : w.size ≤ 9000) (ho : IsNm o) (hn : o ∉ w.names) : WdH (w.ov o) :=
  ⟨by rw [← Wd.size_names, Wd.ov_names, List.length_cons, Wd.size_names]; omega, by
    rw [Wd.ov_names]
    intro z hz
    rcases List.mem_cons.mp hz with rfl | hz
    · exact ho
    · exact h.nm z hz, by rw [Wd.ov_names]; exact List.nodup_cons.mpr ⟨hn, h.nd⟩⟩
/-- two woods, and how many moves lead from the one to the other -/
structure Pr71 where
  w : Wd
  v : Wd
  due : Int
def Pr71.D (p : Pr71) : Dt := .tuple [.tuple p.w.data, .tuple p.v.data, .int p.due]
structure Pr71.Ok (o : Str) (p : Pr71) : Prop where
  hw : WdH p.w
  hv : WdH p.v
  sz : p.w.size ≤ 1000
  pm : p.w.names.Perm p.v.names
  ho : o ∉ p.w.names
  d1 : lmvW p.w p.v = p.due
  d2 : lmvW p.v p.w = p.due
end Tw

namespace Tw
open PySem PySem.Spec PyProof.Rows L2
def lE71 (ns : List Int) (g m c : Int) (y2 : Option Dt) (o3 : Option (List Dt)) (y4 y5 y6 y7 y8 : Option Dt) (o9 : Option (List Dt)) (y10 y11 y12 : Option Dt) : Env :=
  [some (.sc ns), some (.own (Dkv g m c)), od y2, oo o3, od y4, od y5, od y6, od y7, od y8, oo o9, od y10, od y11, od y12, none]
theorem plE71 {ns : List Int} {g m c : Int} {y2 : Option Dt} {o3 : Option (List Dt)} {y4 y5 y6 y7 y8 : Option Dt} {o9 : Option (List Dt)} {y10 y11 y12 : Option Dt} : plB (lE71 ns g m c y2 o3 y4 y5 y6 y7 y8 o9 y10 y11 y12) = true := by
  unfold lE71
  show plB (od y2 :: oo o3 :: od y4 :: od y5 :: od y6 :: od y7 :: od y8 :: oo o9 :: od y10 :: od y11 :: od y12 :: none :: []) = true
  rw [pl_od', pl_oo, pl_od', pl_od', pl_od', pl_od', pl_od', pl_oo, pl_od', pl_od', pl_od']
  rfl
theorem gT_pl3 {env : Env} {i j k : Nat} {x y z : Dt} {te : List A} (hd : plB env = true) (hi : i < env.length) (hj : j < env.length) (hk : k < env.length) (t1 : te.any (isRf i) = false) (t2 : te.any (isRf j) = false) (t3 : te.any (isRf k) = false) : gT [i, j, k] (.d (.tuple [x, y, z])) env te = some (((env.set i (some (.d x))).set j (some (.d y))).set k (some (.d z))) := by
  show (gN i (.d x) env te).bind (fun e => (gN j (.d y) e te).bind fun e => (gN k (.d z) e te).bind fun e => some e) = _
  rw [gN_pl hd hi t1 (.inl ⟨_, rfl⟩)]
  show (gN j (.d y) (env.set i (some (.d x))) te).bind (fun e => (gN k (.d z) e te).bind fun e => some e) = _
  have p1 := plB_set hd i (.d x) (.inl ⟨_, rfl⟩)
  rw [gN_pl p1 (by rw [List.length_set]; exact hj) t2 (.inl ⟨_, rfl⟩)]
  show (gN k (.d z) ((env.set i (some (.d x))).set j (some (.d y))) te).bind (fun e => some e) = _
  rw [gN_pl (plB_set p1 j (.d y) (.inl ⟨_, rfl⟩)) (by rw [List.length_set, List.length_set]; exact hk) t3 (.inl ⟨_, rfl⟩)]
  rfl
theorem pairs71 {o : Str} {ns : List Str} {a : Nat} (h1 : 1 ≤ ns.length) (h2 : ns.length ≤ 60) (nm : ∀ z ∈ o :: ns, IsNm z) (nd : (o :: ns).Nodup) (ha : a ≤ ns.length) :
    ∀ p ∈ ([⟨rowW' ns, rowW' ns.reverse, ns.length - 1⟩, ⟨rowW' ns, rowW' (ns.drop a ++ ns.take a), (min a (ns.length - a) : Nat)⟩, ⟨chnW (ns.take 38), chnW (ns.take 38).reverse, ((ns.take 38).length : Int) * (if 1 < (ns.take 38).length then 1 else 0)⟩, ⟨chnW (ns.take 38), rowW' (ns.take 38), (ns.take 38).length - 1⟩] : List Pr71), p.Ok o := by
  rw [List.nodup_cons] at nd
  have nm' : ∀ z ∈ ns, IsNm z := fun z hz => nm z (List.mem_cons_of_mem _ hz)
  have n0 : ns ≠ [] := fun e => by rw [e] at h1; exact absurd h1 (by decide)
  have tl : (ns.take 38).length = min 38 ns.length := List.length_take
  have t0 : ns.take 38 ≠ [] := fun e => by rw [e] at tl; simp only [List.length_nil] at tl; omega
  have tn : ∀ z ∈ ns.take 38, z ∈ ns := fun z hz => List.mem_of_mem_take hz
  have td : (ns.take 38).Nodup := nd.2.sublist (List.take_sublist 38 ns)
  have rr : ∀ l : List Str, l.reverse.length = l.length := fun l => List.length_reverse
  have sr : ∀ l : List Str, l.length ≤ 60 → (rowW' l).size ≤ 1000 := fun l hl => by rw [← Wd.size_names, rowW'_names]; omega
  have sc : ∀ l : List Str, l.length ≤ 60 → (chnW l).size ≤ 1000 := fun l hl => by rw [← Wd.size_names, chnW_names]; omega
  intro p hp
  simp only [List.mem_cons, List.not_mem_nil, or_false] at hp
  rcases hp with rfl | rfl | rfl | rfl
  · refine ⟨.row (by omega) nm' nd.2, .row (by rw [rr]; omega) (fun z hz => nm' z (List.mem_reverse.mp hz)) ((List.reverse_perm ns).nodup_iff.mpr nd.2), sr _ (by omega), by rw [rowW'_names, rowW'_names]; exact (List.reverse_perm ns).symm, by rw [rowW'_names]; exact nd.1, lmv_rev nd.2 n0, ?_⟩
    have := lmv_rev (ns := ns.reverse) ((List.reverse_perm ns).nodup_iff.mpr nd.2) (by simpa using n0)
    rw [List.reverse_reverse, rr] at this
    exact this
  · have e : ns = ns.take a ++ ns.drop a := (List.take_append_drop a ns).symm
    have l1 : (ns.take a).length = a := by rw [List.length_take]; omega
    have l2 : (ns.drop a).length = ns.length - a := List.length_drop
    have pm : (ns.drop a ++ ns.take a).Perm ns := List.perm_append_comm.trans (by rw [← e])
    have nda : (ns.take a ++ ns.drop a).Nodup := by rw [← e]; exact nd.2
    have ndb : (ns.drop a ++ ns.take a).Nodup := pm.nodup_iff.mpr nd.2
    refine ⟨.row (by omega) nm' nd.2, .row (by rw [pm.length_eq]; omega) (fun z hz => nm' z (pm.mem_iff.mp hz)) ndb, sr _ (by omega), by rw [rowW'_names, rowW'_names]; exact pm.symm, by rw [rowW'_names]; exact nd.1, ?_, ?_⟩
    · have := lmv_rot nda
      rw [← e, l1, l2] at this
      exact this
    · have := lmv_rot ndb
      rw [← e, l1, l2, Nat.min_comm] at this
      exact this
  · refine ⟨.chn (by omega) (fun z hz => nm' z (tn z hz)) td, .chn (by rw [rr]; omega) (fun z hz => nm' z (tn z (List.mem_reverse.mp hz))) ((List.reverse_perm _).nodup_iff.mpr td), sc _ (by omega), by rw [chnW_names, chnW_names]; exact (List.reverse_perm _).symm, by rw [chnW_names]; exact fun z => nd.1 (tn _ z), lmv_chn td t0, ?_⟩
    have := lmv_chn (ns := (ns.take 38).reverse) ((List.reverse_perm _).nodup_iff.mpr td) (by simpa using t0)
    rw [List.reverse_reverse, rr] at this
    exact this
  · exact ⟨.chn (by omega) (fun z hz => nm' z (tn z hz)) td, .row (by omega) (fun z hz => nm' z (tn z hz)) td, sc _ (by omega), by rw [chnW_names, rowW'_names], by rw [chnW_names]; exact fun z => nd.1 (tn _ z), (lmv_cr td t0).1, (lmv_cr td t0).2⟩
theorem law_true : ∀ ns : List Int, ns.length ≤ 63 → ∃ ios, f_law [.sc ns] = .ok (.d (.bool true)) ios := by
  intro ns _
  suffices h : DOk (fun r ios => r = .d (.bool true)) (f_law [.sc ns]) by
    obtain ⟨a, ios, e, rfl⟩ := h.ex
    exact ⟨ios, e⟩
  unfold f_law
  refine run_ok ?_
  unfold m_law
  obtain ⟨g, m, q1⟩ := deck_ok ns
  have drw := fun g c n h0 h1 => draw_ok g m c n h0 h1
  have nmk := fun g c n hn => names_ok g m c n hn
  have chk := chainL_fn
  have lst := fun {w v : Wd} => least_fn (w := w) (v := v)
  generalize f_deckL = F1 at q1 ⊢
  generalize f_drawL = F2 at drw ⊢
  generalize f_namesL = F3 at nmk ⊢
  generalize f_chainL = F4 at chk ⊢
  generalize f_least_moves = F5 at lst ⊢
  refine FP.st (e := lE71 ns g m 0 none none none none none none none none none none none) (by simp! [q1, lE71, od, oo]) ?_
  -- how many
  obtain ⟨r, g1, c1, k1, r0, r1⟩ := drw g 0 60 (by decide) (by decide)
  obtain ⟨n, rfl⟩ : ∃ n : Nat, r = n := ⟨r.toNat, by omega⟩
  have d1 := call_dk (F := F2) (te := [.d (.int 1)]) (i := 1) (env := lE71 ns g m 0 none none none none none none none none none none none) (ms := mCons (mC (.int 60)) mNil) rfl (Evs.cons Ev.c Evs.nil) plE71 rfl k1
  have a1 := op_chg (f := addA) (M1 := mC (.int 1)) (x := .int 1) (env := lE71 ns g m 0 none none none none none none none none none none none) (te := []) (e1 := lE71 ns g1 m c1 none none none none none none none none none none none) Ev.c d1 (Ev.addI (Ev.c (x := .int 1)) (Ev.c (x := .int (n : Nat))))
  rw [show (1 : Int) + (n : Nat) = ((n + 1 : Nat) : Int) from by omega] at a1
  refine FP.st (e := lE71 ns g1 m c1 (some (.int ((n + 1 : Nat) : Int))) none none none none none none none none none none) (asg_at a1 (gN_pl plE71 (by decide : 2 < 14) rfl (.inl ⟨_, rfl⟩))) ?_
  -- the names
  have hn60 : n + 1 ≤ 60 := by omega
  obtain ⟨NS, g2, c2, nl, nd, nm, k2⟩ := nmk g1 c1 (n + 2) (by omega)
  have v2 : ∀ {g c o3 y4 y5 y6 y7 y8 o9 y10 y11 y12}, Ev (mVar 2) (lE71 ns g m c (some (.int ((n + 1 : Nat) : Int))) o3 y4 y5 y6 y7 y8 o9 y10 y11 y12) (.int ((n + 1 : Nat) : Int)) := fun {_ _ _ _ _ _ _ _ _ _ _ _} => Ev.v rfl
  have ad : ∀ {g c o3 y4 y5 y6 y7 y8 o9 y10 y11 y12}, Ev (mD (mOp addA (mVar 2) (mC (.int 1)))) (lE71 ns g m c (some (.int ((n + 1 : Nat) : Int))) o3 y4 y5 y6 y7 y8 o9 y10 y11 y12) (.int ((n + 2 : Nat) : Int)) := fun {_ _ _ _ _ _ _ _ _ _ _ _} => Ev.d (by
    rw [show ((n + 2 : Nat) : Int) = ((n + 1 : Nat) : Int) + 1 from by omega]
    exact Ev.addI v2 Ev.c)
  refine FP.st (e := lE71 ns g2 m c2 (some (.int ((n + 1 : Nat) : Int))) (some (NS.map .str)) none none none none none none none none none) (asg_at (call_dk (F := F3) (te := []) (i := 1) rfl (Evs.cons ad Evs.nil) plE71 rfl k2) (gN_pl plE71 (by decide : 3 < 14) rfl (.inr ⟨_, rfl⟩))) ?_
  cases NS with
  | nil => simp at nl
  | cons o ks =>
  have kl : ks.length = n + 1 := by rw [List.length_cons] at nl; omega
  have ix0 : Ev (mOp ixA (mVar 3) (mC (.int 0))) (lE71 ns g2 m c2 (some (.int ((n + 1 : Nat) : Int))) (some ((o :: ks).map .str)) none none none none none none none none none) (.str o) := Ev.ixO (i := 3) (n := 0) (xs := (o :: ks).map .str) rfl (Ev.c (x := .int ((0 : Nat) : Int))) rfl
  refine FP.st (e := lE71 ns g2 m c2 (some (.int ((n + 1 : Nat) : Int))) (some (ks.map .str)) (some (.str o)) none none none none none none none none) (by
    have sl := sl_fr (n := 1) (env := lE71 ns g2 m c2 (some (.int ((n + 1 : Nat) : Int))) (some ((o :: ks).map .str)) none none none none none none none none none) (i := 3) (te := [.d (.str o)]) (W := o :: ks) rfl (Ev.c (x := .int ((1 : Nat) : Int)))
    have c : mCons (mOp ixA (mVar 3) (mC (.int 0))) (mCons (mSl (mVar 3) (mPart (mC (.int 1))) mNoPart) mNil) (lE71 ns g2 m c2 (some (.int ((n + 1 : Nat) : Int))) (some ((o :: ks).map .str)) none none none none none none none none none) [] = .ok [.d (.str o), .own (.l (ks.map .str))] (lE71 ns g2 m c2 (some (.int ((n + 1 : Nat) : Int))) (some ((o :: ks).map .str)) none none none none none none none none none) := by
      rw [ev_mCons, ix0, zq00, ek_mCons_0, ev_mCons]
      have sl : mSl (mVar 3) (mPart (mC (.int 1))) mNoPart (lE71 ns g2 m c2 (some (.int ((n + 1 : Nat) : Int))) (some ((o :: ks).map .str)) none none none none none none none none none) [.d (.str o)] = .ok (.own (.l (ks.map .str))) (lE71 ns g2 m c2 (some (.int ((n + 1 : Nat) : Int))) (some ((o :: ks).map .str)) none none none none none none none none none) := sl
      rw [sl, zq00, ek_mCons_0]
      rfl
    show (mCons _ _ (lE71 ns g2 m c2 (some (.int ((n + 1 : Nat) : Int))) (some ((o :: ks).map .str)) none none none none none none none none none) []).fl _ = _
    rw [c, zq01]
    show (match gN 3 (.own (.l (ks.map .str))) (lE71 ns g2 m c2 (some (.int ((n + 1 : Nat) : Int))) (some ((o :: ks).map .str)) none none none none none none none none none) [.d (.str o)] with | some e1 => (match gN 4 (.d (.str o)) e1 [] with | some e2 => Fl.nx e2 | none => .bad) | none => .bad) = _
    rw [gN_pl plE71 (by decide : 3 < 14) rfl (.inr ⟨_, rfl⟩)]
    show (match gN 4 (.d (.str o)) (lE71 ns g2 m c2 (some (.int ((n + 1 : Nat) : Int))) (some (ks.map .str)) none none none none none none none none none) [] with | some e2 => Fl.nx e2 | none => .bad) = _
    rw [gN_pl plE71 (by decide : 4 < 14) rfl (.inl ⟨_, rfl⟩)]
    rfl) ?_
  -- where it is cut
  obtain ⟨r, g3, c3, k3, r2, r3⟩ := drw g2 c2 ((n + 2 : Nat) : Int) (by omega) (by omega)
  obtain ⟨a, rfl⟩ : ∃ a : Nat, r = a := ⟨r.toNat, by omega⟩
  have ha : a ≤ ks.length := by omega
  refine FP.st (e := lE71 ns g3 m c3 (some (.int ((n + 1 : Nat) : Int))) (some (ks.map .str)) (some (.str o)) (some (.int (a : Nat))) none none none none none none none) (asg_at (call_dk (F := F2) (te := []) (i := 1) rfl (Evs.cons ad Evs.nil) plE71 rfl k3) (gN_pl plE71 (by decide : 5 < 14) rfl (.inl ⟨_, rfl⟩))) ?_
  -- the row
  have lc := lc_al (α := Str) (mi := mSeqI (mVar 3)) (tt := mYes) (el := mTup (mCons (mD (mVar 13)) (mCons (mTup mNil) mNil))) (j := 13) (env := lE71 ns g3 m c3 (some (.int ((n + 1 : Nat) : Int))) (some (ks.map .str)) (some (.str o)) (some (.int (a : Nat))) none none none none none none none) (te := []) (as := [.rf 3 none])
    (rd := fun e => (A.rf 3 none).seq? e) ks .str (fun _ => true) (fun k => .tuple [.str k, .tuple []]) rfl rfl rfl rfl (by omega) (fun _ _ _ => rfl) (fun k hk _ acc => Ev.tup (Evs.two (Ev.d (Ev.v (i := 13) rfl)) (Ev.tup Evs.nil (Nat.zero_le _))) (Nat.le_of_ble_eq_true rfl) _)
  rw [List.filter_eq_self.mpr (fun _ _ => rfl), ← rowW'_data] at lc
  refine FP.st (e := lE71 ns g3 m c3 (some (.int ((n + 1 : Nat) : Int))) (some (ks.map .str)) (some (.str o)) (some (.int (a : Nat))) (some (.tuple (rowW' ks).data)) none none none none none none) (asg_at (tupL_at lc) (gN_pl plE71 (by decide : 6 < 14) rfl (.inl ⟨_, rfl⟩))) ?_
  -- the chain
  have s38 : ∀ {y6 y7 y8 o9 te}, mSl (mVar 3) mNoPart (mPart (mC (.int 38))) (lE71 ns g3 m c3 (some (.int ((n + 1 : Nat) : Int))) (some (ks.map .str)) (some (.str o)) (some (.int (a : Nat))) y6 y7 y8 o9 none none none) te = .ok (.own (.l ((ks.take 38).map .str))) (lE71 ns g3 m c3 (some (.int ((n + 1 : Nat) : Int))) (some (ks.map .str)) (some (.str o)) (some (.int (a : Nat))) y6 y7 y8 o9 none none none) := fun {_ _ _ _ _} =>
    sl_to (n := 38) rfl (Ev.c (x := .int ((38 : Nat) : Int)))
  have tl : (ks.take 38).length ≤ 10000 := by rw [List.length_take]; omega
  refine FP.st (e := lE71 ns g3 m c3 (some (.int ((n + 1 : Nat) : Int))) (some (ks.map .str)) (some (.str o)) (some (.int (a : Nat))) (some (.tuple (rowW' ks).data)) (some (.tuple (chnW (ks.take 38)).data)) none none none none none) (asg_at (Ev.call (F := F4) (io := [false]) (xs := [.list ((ks.take 38).map .str)]) (Evs.cons (fun te => mD_ownl s38) Evs.nil) rfl (chk _ tl) _) (gN_pl plE71 (by decide : 7 < 14) rfl (.inl ⟨_, rfl⟩))) ?_
  have lt := lenL_at (s38 (y6 := some (.tuple (rowW' ks).data)) (y7 := some (.tuple (chnW (ks.take 38)).data)) (y8 := none) (o9 := none) (te := []))
  rw [List.length_map] at lt
  refine FP.st (e := lE71 ns g3 m c3 (some (.int ((n + 1 : Nat) : Int))) (some (ks.map .str)) (some (.str o)) (some (.int (a : Nat))) (some (.tuple (rowW' ks).data)) (some (.tuple (chnW (ks.take 38)).data)) (some (.int ((ks.take 38).length : Nat))) none none none none) (asg_at lt (gN_pl plE71 (by decide : 8 < 14) rfl (.inl ⟨_, rfl⟩))) ?_
  obtain ⟨E8, hE8⟩ : ∃ E8 : Option (List Dt) → Option Dt → Option Dt → Option Dt → Env, E8 = fun o9 y10 y11 y12 => lE71 ns g3 m c3 (some (.int ((n + 1 : Nat) : Int))) (some (ks.map .str)) (some (.str o)) (some (.int (a : Nat))) (some (.tuple (rowW' ks).data)) (some (.tuple (chnW (ks.take 38)).data)) (some (.int ((ks.take 38).length : Nat))) o9 y10 y11 y12 := ⟨_, rfl⟩
  have pl8 : ∀ {o9 y10 y11 y12}, plB (E8 o9 y10 y11 y12) = true := fun {_ _ _ _} => by rw [hE8]; exact plE71
  have u2 : ∀ {o9 y10 y11 y12}, Ev (mVar 2) (E8 o9 y10 y11 y12) (.int ((n + 1 : Nat) : Int)) := fun {_ _ _ _} => by rw [hE8]; exact Ev.v rfl
  have u4 : ∀ {o9 y10 y11 y12}, Ev (mVar 4) (E8 o9 y10 y11 y12) (.str o) := fun {_ _ _ _} => by rw [hE8]; exact Ev.v rfl
  have u5 : ∀ {o9 y10 y11 y12}, Ev (mVar 5) (E8 o9 y10 y11 y12) (.int (a : Nat)) := fun {_ _ _ _} => by rw [hE8]; exact Ev.v rfl
  have u6 : ∀ {o9 y10 y11 y12}, Ev (mVar 6) (E8 o9 y10 y11 y12) (.tuple (rowW' ks).data) := fun {_ _ _ _} => by rw [hE8]; exact Ev.v rfl
  have u7 : ∀ {o9 y10 y11 y12}, Ev (mVar 7) (E8 o9 y10 y11 y12) (.tuple (chnW (ks.take 38)).data) := fun {_ _ _ _} => by rw [hE8]; exact Ev.v rfl
  have u8 : ∀ {o9 y10 y11 y12}, Ev (mVar 8) (E8 o9 y10 y11 y12) (.int ((ks.take 38).length : Nat)) := fun {_ _ _ _} => by rw [hE8]; exact Ev.v rfl
  have s8 : ∀ {o9 te}, mSl (mVar 3) mNoPart (mPart (mC (.int 38))) (E8 o9 none none none) te = .ok (.own (.l ((ks.take 38).map .str))) (E8 o9 none none none) := fun {_ _} => by rw [hE8]; exact s38
  have hs8 : lE71 ns g3 m c3 (some (.int ((n + 1 : Nat) : Int))) (some (ks.map .str)) (some (.str o)) (some (.int (a : Nat))) (some (.tuple (rowW' ks).data)) (some (.tuple (chnW (ks.take 38)).data)) (some (.int ((ks.take 38).length : Nat))) none none none none = E8 none none none none := by rw [hE8]
  have st9 : ∀ {o9 xs}, (E8 o9 none none none).set 9 (some (.own (.l xs))) = E8 (some xs) none none none := fun {_ _} => by rw [hE8]; rfl
  have g9 : ∀ {xs y10 y11 y12}, (E8 (some xs) y10 y11 y12)[9]? = some (some (.own (.l xs))) := fun {_ _ _ _} => by rw [hE8]; rfl
  have ln8 : ∀ {o9 y10 y11 y12}, (E8 o9 y10 y11 y12).length = 14 := fun {_ _ _ _} => by rw [hE8]; rfl
  have nest : ∀ {xs y10 y11 y12}, inE (isNest 9) (E8 (some xs) y10 y11 y12) = false := fun {xs y10 y11 y12} => by
    rw [hE8]
    cases y10 <;> cases y11 <;> cases y12 <;> rfl
  have setT : ∀ {xs y10 y11 y12} {x y z : Dt}, (((E8 (some xs) y10 y11 y12).set 10 (some (.d x))).set 11 (some (.d y))).set 12 (some (.d z)) = E8 (some xs) (some x) (some y) (some z) := fun {_ _ _ _ _ _ _} => by rw [hE8]; rfl
  have w10 : ∀ {xs x y z}, Ev (mVar 10) (E8 (some xs) (some x) (some y) (some z)) x := fun {_ _ _ _} => by rw [hE8]; exact Ev.v rfl
  have w11 : ∀ {xs x y z}, Ev (mVar 11) (E8 (some xs) (some x) (some y) (some z)) y := fun {_ _ _ _} => by rw [hE8]; exact Ev.v rfl
  have w12 : ∀ {xs x y z}, Ev (mVar 12) (E8 (some xs) (some x) (some y) (some z)) z := fun {_ _ _ _} => by rw [hE8]; exact Ev.v rfl
  rw [hs8]
  clear hs8
  have rl : (rowW' ks).data.length ≤ 1000 := by rw [rowW'_data, List.length_map]; omega
  let P1 : Pr71 := ⟨rowW' ks, rowW' ks.reverse, ks.length - 1⟩
  let P2 : Pr71 := ⟨rowW' ks, rowW' (ks.drop a ++ ks.take a), (min a (ks.length - a) : Nat)⟩
  let P3 : Pr71 := ⟨chnW (ks.take 38), chnW (ks.take 38).reverse, ((ks.take 38).length : Int) * (if 1 < (ks.take 38).length then 1 else 0)⟩
  let P4 : Pr71 := ⟨chnW (ks.take 38), rowW' (ks.take 38), (ks.take 38).length - 1⟩
  have ev1 : Ev (mTup (mCons (mD (mVar 6)) (mCons (mD (mU revA (mVar 6))) (mCons (mD (mOp (fl2 subD) (mVar 2) (mC (.int 1)))) mNil)))) (E8 none none none none) P1.D := by
    have h := Ev.tup (Evs.cons (Ev.d (u6 (o9 := none) (y10 := none) (y11 := none) (y12 := none))) (Evs.two (Ev.d (Ev.rev u6)) (Ev.d (Ev.subI u2 (Ev.c (x := .int 1)))))) (Nat.le_of_ble_eq_true rfl)
    rw [rowW'_data, ← List.map_reverse, ← rowW'_data, ← rowW'_data, ← kl] at h
    exact h
  have ev2 : Ev (mTup (mCons (mD (mVar 6)) (mCons (mD (mOp addA (mSl (mVar 6) (mPart (mVar 5)) mNoPart) (mSl (mVar 6) mNoPart (mPart (mVar 5))))) (mCons (mD (mCB min2A (mCons (mVar 5) (mCons (mOp (fl2 subD) (mVar 2) (mVar 5)) mNil)))) mNil)))) (E8 none none none none) P2.D := by
    have h1 := Ev.slF (u6 (o9 := none) (y10 := none) (y11 := none) (y12 := none)) u5
    have h2 := Ev.slT (u6 (o9 := none) (y10 := none) (y11 := none) (y12 := none)) u5
    rw [cutD_from] at h1
    rw [cutD_to] at h2
    have h3 := Ev.addT h1 h2 (by rw [List.length_drop, List.length_take]; omega)
    rw [rowW'_data, ← List.map_drop, ← List.map_take, ← List.map_append, ← rowW'_data] at h3
    have h4 := Ev.subI (u2 (o9 := none) (y10 := none) (y11 := none) (y12 := none)) u5
    rw [show ((n + 1 : Nat) : Int) - (a : Nat) = ((ks.length - a : Nat) : Int) from by omega] at h4
    exact Ev.tup (Evs.cons (Ev.d u6) (Evs.two (Ev.d h3) (Ev.d (Ev.min2 u5 h4)))) (Nat.le_of_ble_eq_true rfl)
  refine FP.st (e := E8 (some [P1.D, P2.D]) none none none) (by
    rw [asg_at (lst_ev (Evs.two ev1 ev2) (Nat.le_of_ble_eq_true rfl)) (gN_pl pl8 (by rw [ln8]; decide) rfl (.inr ⟨_, rfl⟩)), st9]) ?_
  have rv3 : ∀ te, mD (mU revLA (mSl (mVar 3) mNoPart (mPart (mC (.int 38))))) (E8 (some [P1.D, P2.D]) none none none) te = .ok (.d (.list ((ks.take 38).reverse.map .str))) (E8 (some [P1.D, P2.D]) none none none) := fun te => by
    rw [List.map_reverse]
    exact mD_ownl (revL_at s8)
  have tl2 : (ks.take 38).reverse.length ≤ 10000 := by rw [List.length_reverse]; exact tl
  have ev3 : Ev (mTup (mCons (mD (mVar 7)) (mCons (mD (mCall (noXf F4) [false] (mCons (mD (mU revLA (mSl (mVar 3) mNoPart (mPart (mC (.int 38)))))) mNil))) (mCons (mD (mOp mulA (mVar 8) (mCB (one (fl1 intD)) (mCons (mOp (fl2 gtD) (mVar 8) (mC (.int 1))) mNil)))) mNil)))) (E8 (some [P1.D, P2.D]) none none none) P3.D := by
    have h2 := Ev.call (F := F4) (io := [false]) (xs := [.list ((ks.take 38).reverse.map .str)]) (Evs.cons rv3 Evs.nil) rfl (chk _ tl2)
    have h3 := Ev.mulI (u8 (o9 := some [P1.D, P2.D]) (y10 := none) (y11 := none) (y12 := none)) (gt_int 1 u8) (cm_r (by split <;> decide))
    have e : (if decide (1 < (ks.take 38).length) = true then (1 : Int) else 0) = if 1 < (ks.take 38).length then 1 else 0 := by
      by_cases c : 1 < (ks.take 38).length
      · rw [if_pos c, if_pos (decide_eq_true c)]
      · rw [if_neg c, if_neg (by simpa using c)]
    rw [e] at h3
    exact Ev.tup (Evs.cons (Ev.d u7) (Evs.two (Ev.d h2) (Ev.d h3))) (Nat.le_of_ble_eq_true rfl)
  refine FP.st (e := E8 (some [P1.D, P2.D, P3.D]) none none none) (by
    rw [append_at g9 ev3 (big' (by simp only [List.length_cons, List.length_nil]; omega)) nest, st9]
    rfl) ?_
  have tk : ks.take (ks.take 38).length = ks.take 38 := by
    rw [List.length_take]
    by_cases c : 38 ≤ ks.length
    · rw [Nat.min_eq_left c]
    · rw [Nat.min_eq_right (by omega), List.take_length, List.take_of_length_le (by omega)]
  have ev4 : Ev (mTup (mCons (mD (mVar 7)) (mCons (mD (mSl (mVar 6) mNoPart (mPart (mVar 8)))) (mCons (mD (mOp (fl2 subD) (mVar 8) (mC (.int 1)))) mNil)))) (E8 (some [P1.D, P2.D, P3.D]) none none none) P4.D := by
    have h2 := Ev.slT (u6 (o9 := some [P1.D, P2.D, P3.D]) (y10 := none) (y11 := none) (y12 := none)) u8
    rw [cutD_to, rowW'_data, ← List.map_take, tk, ← rowW'_data] at h2
    exact Ev.tup (Evs.cons (Ev.d u7) (Evs.two (Ev.d h2) (Ev.d (Ev.subI u8 (Ev.c (x := .int 1)))))) (Nat.le_of_ble_eq_true rfl)
  refine FP.st (e := E8 (some [P1.D, P2.D, P3.D, P4.D]) none none none) (by
    rw [append_at g9 ev4 (big' (by simp only [List.length_cons, List.length_nil]; omega)) nest, st9]
    rfl) ?_
  have all := pairs71 (o := o) (ns := ks) (a := a) (by omega) (by omega) nm nd ha
  refine FP.sq ?_
  refine fp_for (as := [.rf 9 none]) (rd := fun e => (A.rf 9 none).seq? e) (xs := [P1.D, P2.D, P3.D, P4.D]) (e := E8 (some [P1.D, P2.D, P3.D, P4.D]) none none none)
    (fun r e => ∃ (ps : List Pr71) (y10 y11 y12 : Option Dt), r = ps.map Pr71.D ∧ (∀ p ∈ ps, p.Ok o) ∧ e = E8 (some [P1.D, P2.D, P3.D, P4.D]) y10 y11 y12)
    (by rw [hE8]; rfl) ⟨[P1, P2, P3, P4], none, none, none, rfl, all, rfl⟩ ?_ ?_ (fun e _ => FP.re (a := .d (.bool true)) rfl ⟨_, rfl, rfl⟩)
  · rintro r e ⟨ps, y10, y11, y12, _, _, rfl⟩
    rw [hE8]
    rfl
  rintro x r e ⟨ps, y10, y11, y12, h1, h2, rfl⟩
  cases ps with
  | nil => cases h1
  | cons p ps =>
    rw [List.map_cons] at h1
    injection h1 with e1 e2
    subst e1 e2
    obtain ⟨hw, hv, sz, pm, ho, d1, d2⟩ := h2 p List.mem_cons_self
    obtain ⟨w, v, due⟩ := p
    simp only at hw hv sz pm ho d1 d2
    refine ⟨E8 (some [P1.D, P2.D, P3.D, P4.D]) (some (.tuple w.data)) (some (.tuple v.data)) (some (.int due)), ?_, ?_⟩
    · show gT [10, 11, 12] (.d (.tuple [.tuple w.data, .tuple v.data, .int due])) _ _ = _
      rw [gT_pl3 pl8 (by rw [ln8]; decide) (by rw [ln8]; decide) (by rw [ln8]; decide) rfl rfl rfl, setT]
    have hov : o ∉ v.names := fun z => ho (pm.mem_iff.mpr z)
    have szv : v.size ≤ 1000 := by rw [← Wd.size_names, ← pm.length_eq, Wd.size_names]; exact sz
    have ons : IsNm o := nm o List.mem_cons_self
    have hwo := hw.ov (o := o) (by omega) ons ho
    have hvo := hv.ov (o := o) (by omega) ons hov
    have pmo : (w.ov o).names.Perm (v.ov o).names := by rw [Wd.ov_names, Wd.ov_names]; exact pm.cons o
    have d3 : lmvW (w.ov o) (v.ov o) = due := by rw [lmvW_ov ho hov fun n hn => pm.mem_iff.mp hn, d1]
    have l1 := lst hw hv pm
    have l2 := lst hv hw pm.symm
    have l3 := lst hwo hvo pmo
    rw [d1] at l1
    rw [d2] at l2
    rw [d3] at l3
    have f : (!decide (due = due)) = false := by simp
    have t1 := fun te => (Ev.eq (Ev.call (F := F5) (io := [false, false]) (xs := [.tuple w.data, .tuple v.data]) (Evs.two (w10 (xs := [P1.D, P2.D, P3.D, P4.D]) (y := .tuple v.data) (z := .int due)) w11) rfl l1) w12 (neD_int due due)).tst te
    have t2 := fun te => (Ev.eq (Ev.call (F := F5) (io := [false, false]) (xs := [.tuple v.data, .tuple w.data]) (Evs.two (w11 (xs := [P1.D, P2.D, P3.D, P4.D]) (x := .tuple w.data) (z := .int due)) w10) rfl l2) w12 (neD_int due due)).tst te
    have o1 : ∀ {M x}, Ev M (E8 (some [P1.D, P2.D, P3.D, P4.D]) (some (.tuple w.data)) (some (.tuple v.data)) (some (.int due))) (.tuple x) → Ev (mTup (mCons (mTup (mCons (mD (mVar 4)) (mCons (mD M) mNil))) mNil)) (E8 (some [P1.D, P2.D, P3.D, P4.D]) (some (.tuple w.data)) (some (.tuple v.data)) (some (.int due))) (.tuple [.tuple [.str o, .tuple x]]) := fun {M x} h =>
      Ev.tup (Evs.cons (Ev.tup (Evs.two (Ev.d u4) (Ev.d h)) (Nat.le_of_ble_eq_true rfl)) Evs.nil) (Nat.le_of_ble_eq_true rfl)
    have t3 := fun te => (Ev.eq (Ev.call (F := F5) (io := [false, false]) (xs := [.tuple (w.ov o).data, .tuple (v.ov o).data]) (Evs.two (o1 w10) (o1 w11)) rfl l3) w12 (neD_int due due)).tst te
    rw [f] at t1 t2 t3
    refine FP.sq (FP.ifF (or_ev (t1 _) fun _ => t2 _) (FP.en rfl ?_))
    exact FP.ifF (t3 _) (.nx ⟨ps, _, _, _, rfl, fun q hq => h2 q (List.mem_cons_of_mem _ hq), rfl⟩)
end Tw

namespace Tw
open PySem PySem.Spec PyProof.Rows L2
/-! ### the text by places -/
theorem sc_chainL : FnScope n_chainL ["_law_names_here"] (defScope s_chainL) := ⟨rfl, rfl, rfl, by decide +kernel, rfl, by decide +kernel, by decide +kernel⟩
theorem sc_deckL : FnScope n_deckL ["_law_script"] (defScope s_deckL) := ⟨rfl, rfl, rfl, by decide +kernel, rfl, by decide +kernel, by decide +kernel⟩
theorem sc_drawL : FnScope n_drawL ["_law_deck_here", "_law_many"] (defScope s_drawL) := ⟨rfl, rfl, rfl, by decide +kernel, rfl, by decide +kernel, by decide +kernel⟩
theorem sc_nameL : FnScope n_nameL ["_law_deck_here"] (defScope s_nameL) := ⟨rfl, rfl, rfl, by decide +kernel, rfl, by decide +kernel, by decide +kernel⟩
theorem sc_namesL : FnScope n_namesL ["_law_deck_here", "_law_many"] (defScope s_namesL) := ⟨rfl, rfl, rfl, by decide +kernel, rfl, by decide +kernel, by decide +kernel⟩
theorem sc_begin_of : FnScope n_begin_of ["name"] (defScope s_begin_of) := ⟨rfl, rfl, rfl, by decide +kernel, rfl, by decide +kernel, by decide +kernel⟩
theorem sc_end_of : FnScope n_end_of ["name"] (defScope s_end_of) := ⟨rfl, rfl, rfl, by decide +kernel, rfl, by decide +kernel, by decide +kernel⟩
theorem sc_row_of : FnScope n_row_of ["wood"] (defScope s_row_of) := ⟨rfl, rfl, rfl, by decide +kernel, rfl, by decide +kernel, by decide +kernel⟩
theorem sc_names_of : FnScope n_names_of ["wood"] (defScope s_names_of) := ⟨rfl, rfl, rfl, by decide +kernel, rfl, by decide +kernel, by decide +kernel⟩
theorem sc_require_alike : FnScope n_require_alike ["one", "other"] (defScope s_require_alike) := ⟨rfl, rfl, rfl, by decide +kernel, rfl, by decide +kernel, by decide +kernel⟩
theorem sc_places : FnScope n_places ["wood"] (defScope s_places) := ⟨rfl, rfl, rfl, by decide +kernel, rfl, by decide +kernel, by decide +kernel⟩
theorem sc_all_parents : FnScope n_all_parents ["wood"] (defScope s_all_parents) := ⟨rfl, rfl, rfl, by decide +kernel, rfl, by decide +kernel, by decide +kernel⟩
theorem sc_staying : FnScope n_staying ["one", "other"] (defScope s_staying) := ⟨rfl, rfl, rfl, by decide +kernel, rfl, by decide +kernel, by decide +kernel⟩
theorem sc_lengths : FnScope n_lengths ["one", "other"] (defScope s_lengths) := ⟨rfl, rfl, rfl, by decide +kernel, rfl, by decide +kernel, by decide +kernel⟩
theorem sc_resting : FnScope n_resting ["one", "other"] (defScope s_resting) := ⟨rfl, rfl, rfl, by decide +kernel, rfl, by decide +kernel, by decide +kernel⟩
theorem sc_least_moves : FnScope n_least_moves ["one", "other"] (defScope s_least_moves) := ⟨rfl, rfl, rfl, by decide +kernel, rfl, by decide +kernel, by decide +kernel⟩
theorem sc_law : FnScope n_law ["_law_script"] (defScope s_law) := ⟨rfl, rfl, rfl, by decide +kernel, rfl, by decide +kernel, by decide +kernel⟩
structure Tx (K : PySem.W.Frag) (mg : Str → Option Value) : Prop where
  z_abs : mg "abs" = none
  z_enumerate : mg "enumerate" = none
  z_int : mg "int" = none
  z_isinstance : mg "isinstance" = none
  z_len : mg "len" = none
  z_list : mg "list" = none
  z_min : mg "min" = none
  z_range : mg "range" = none
  z_sorted : mg "sorted" = none
  z_str : mg "str" = none
  z_tuple : mg "tuple" = none
  d_chainL : DefAt K mg "_law_chain" s_chainL
  d_deckL : DefAt K mg "_law_deck" s_deckL
  d_drawL : DefAt K mg "_law_draw" s_drawL
  d_nameL : DefAt K mg "_law_name" s_nameL
  d_namesL : DefAt K mg "_law_names" s_namesL
  d_begin_of : DefAt K mg "begin_of" s_begin_of
  d_end_of : DefAt K mg "end_of" s_end_of
  d_row_of : DefAt K mg "row_of" s_row_of
  d_names_of : DefAt K mg "names_of" s_names_of
  d_require_alike : DefAt K mg "require_alike" s_require_alike
  d_places : DefAt K mg "places" s_places
  d_all_parents : DefAt K mg "all_parents" s_all_parents
  d_staying : DefAt K mg "staying" s_staying
  d_lengths : DefAt K mg "lengths" s_lengths
  d_resting : DefAt K mg "resting" s_resting
  d_least_moves : DefAt K mg "least_moves" s_least_moves
  d_law : DefAt K mg "law" s_law
section
variable {P : Program} {w : World} {K : PySem.W.Frag} {mg : Str → Option Value} {base : Heap}
theorem ok_chainL (T : Tx K mg) : Cal P w K mg base 1 "_law_chain" (spN (kw P w K) f_chainL 1) := by
  refine cal_of (t := t_chainL (kw P w K)) T.d_chainL (fun _ _ _ _ _ _ us hl => match us, hl with | [_], _ => rfl) sc_chainL (fun vs H Q E h => h.1) (fun cdv f A outer s H E hr => ?_) (fun vs H Q E h => pure_of (N := n_chainL) (m := m_chainL) (fun B W => ss_chainL) vs H Q E h.2)
  exact (pss_cons (ps_set (i := 1) sc_chainL.nd rfl (Or.inl rfl) (pe_tupF pa_nil))
      (pss_cons (ps_for PassesOwn.never rfl (pi_seq (pe_revL (pv 0))) (pg_name (i := 2) sc_chainL.nd rfl (Or.inl rfl)) (pss_one (ps_set (i := 1) sc_chainL.nd rfl (Or.inl rfl) (pe_tupF (pa_cons (pe_tupF (pa_cons (pv 2) (pa_cons (pv 1) pa_nil))) pa_nil)))))
      (pss_one (ps_ret (pv 1)))))
theorem ok_deckL (T : Tx K mg) : Cal P w K mg base 1 "_law_deck" (spN (kw P w K) f_deckL 1) := by
  refine cal_of (t := t_deckL (kw P w K)) T.d_deckL (fun _ _ _ _ _ _ us hl => match us, hl with | [_], _ => rfl) sc_deckL (fun vs H Q E h => h.1) (fun cdv f A outer s H E hr => ?_) (fun vs H Q E h => pure_of (N := n_deckL) (m := m_deckL) (fun B W => ss_deckL) vs H Q E h.2)
  exact (pss_cons (ps_par (by rfl) sc_deckL.nd rfl rfl (by decide) rfl rfl (pa_cons pe_int (pa_cons (pe_op op_addU pe_int (pe_op op_mulU pe_int (pe_callB call_lenU (by rfl) T.z_len (by decide +kernel) (pa_cons (pv 0) pa_nil)))) pa_nil)) (by rfl))
      (pss_cons (ps_for PassesOwn.never rfl (pi_seq (pe_slice sl_U (pv 0) po_none (po_some pe_int))) (pg_name (i := 3) sc_deckL.nd rfl (Or.inl rfl)) (pss_cons (ps_set (i := 4) sc_deckL.nd rfl (Or.inl rfl) (pe_op op_addU (pe_op op_addU (pe_op op_mulU pe_int (pe_callB call_abs (by rfl) T.z_abs (by decide +kernel) (pa_cons (pv 3) pa_nil))) (pe_callTy call_int1 (by rfl) T.z_int (by decide +kernel) (pa_cons (pe_cmpR op_ltU (pv 3) pe_int (nomark _)) pa_nil))) pe_int))
      (pss_cons (ps_set (i := 2) sc_deckL.nd rfl (Or.inl rfl) (pe_op op_mod (pe_callTy call_int1 (by rfl) T.z_int (by decide +kernel) (pa_cons (pe_op op_addU (pe_op op_mulU (pv 2) pe_int) (pv 4)) pa_nil)) pe_int))
      (pss_one (ps_if (pt_cmpR op_ge (pe_callB call_abs (by rfl) T.z_abs (by decide +kernel) (pa_cons (pv 3) pa_nil)) (pe_op op_pow pe_int pe_int) (nomark _)) (pss_one (ps_set (i := 1) sc_deckL.nd rfl (Or.inl rfl) (pe_op op_addU (pe_op op_mulU (pv 1) pe_int) (pe_callB call_abs (by rfl) T.z_abs (by decide +kernel) (pa_cons (pv 3) pa_nil))))) pss_nil)))))
      (pss_one (ps_ret (pe_lst (pa_cons (pv 1) (pa_cons (pv 2) (pa_cons pe_int pa_nil))))))))
theorem ok_drawL (T : Tx K mg) : Cal P w K mg base 1 "_law_draw" (spN (kw P w K) f_drawL 2) := by
  refine cal_of (t := t_drawL (kw P w K)) T.d_drawL (fun _ _ _ _ _ _ us hl => match us, hl with | [_, _], _ => rfl) sc_drawL (fun vs H Q E h => h.1) (fun cdv f A outer s H E hr => ?_) (fun vs H Q E h => pure_of (N := n_drawL) (m := m_drawL) (fun B W => ss_drawL) vs H Q E h.2)
  exact (pss_cons (ps_if (pt_cmpR op_gt (pe_ix ix_seq (pv 0) pe_int (fun _ _ => rfl)) pe_int (nomark _)) (pss_cons (ps_set (i := 2) sc_drawL.nd rfl (Or.inl rfl) (pe_op op_mod (pe_callTy call_int1 (by rfl) T.z_int (by decide +kernel) (pa_cons (pe_ix ix_seq (pv 0) pe_int (fun _ _ => rfl)) pa_nil)) (pv 1)))
      (pss_cons (ps_asg (pe_op op_fdiv (pe_ix ix_seq (pv 0) pe_int (fun _ _ => rfl)) (pv 1)) (pg_sub (pv 0) pe_int set_list))
      (pss_one (ps_ret (pv 2))))) pss_nil)
      (pss_cons (ps_asg (pe_op op_addU (pe_ix ix_seq (pv 0) pe_int (fun _ _ => rfl)) pe_int) (pg_sub (pv 0) pe_int set_list))
      (pss_cons (ps_set (i := 3) sc_drawL.nd rfl (Or.inl rfl) (pe_op op_mod (pe_callTy call_int1 (by rfl) T.z_int (by decide +kernel) (pa_cons (pe_op op_addU (pe_ix ix_seq (pv 0) pe_int (fun _ _ => rfl)) (pe_op op_mulU pe_int (pe_ix ix_seq (pv 0) pe_int (fun _ _ => rfl)))) pa_nil)) pe_int))
      (pss_cons (ps_set (i := 3) sc_drawL.nd rfl (Or.inl rfl) (pe_op op_mod (pe_callTy call_int1 (by rfl) T.z_int (by decide +kernel) (pa_cons (pe_op op_mulU (pv 3) (pe_op op_addU (pe_op op_mod (pv 3) pe_int) pe_int)) pa_nil)) pe_int))
      (pss_one (ps_ret (pe_op op_mod (pe_op op_fdiv (pe_op op_mod (pe_callTy call_int1 (by rfl) T.z_int (by decide +kernel) (pa_cons (pe_op op_mulU (pv 3) (pv 3)) pa_nil)) pe_int) pe_int) (pv 1))))))))
theorem ok_nameL (T : Tx K mg) (c_drawL : Cal P w K mg base 1 "_law_draw" (spN (kw P w K) f_drawL 2)) : Cal P w K mg base 2 "_law_name" (spN (kw P w K) f_nameL 1) := by
  refine cal_of (t := t_nameL (kw P w K)) T.d_nameL (fun _ _ _ _ _ _ us hl => match us, hl with | [_], _ => rfl) sc_nameL (fun vs H Q E h => h.1) (fun cdv f A outer s H E hr => ?_) (fun vs H Q E h => pure_of (N := n_nameL) (m := m_nameL) (fun B W => ss_nameL) vs H Q E h.2)
  exact (pss_cons (ps_set (i := 1) sc_nameL.nd rfl (Or.inr rfl) pe_str)
      (pss_one (ps_ret (pe_join pe_str (pe_lc (own := [("_law_k", 2)]) (by rfl) sc_nameL.nd (pi_range1 (by rfl) T.z_range (pa_cons (pe_op op_addU pe_int (pe_c c_drawL hr (by decide) (by rfl) (pa_cons (pv 0) (pa_cons pe_int pa_nil)))) pa_nil)) (blkOk_by (own := [("_law_k", 2)]) (N := n_nameL) (sc := defScope s_nameL) (by decide +kernel)) (fun _ _ _ _ _ => (pg_name (i := 2) sc_nameL.nd rfl (Or.inl rfl))) (fun _ _ _ _ _ => pts_nil) (fun _ _ _ _ _ => (pe_ix ix_seq (pv 1) (pe_c c_drawL hr (by decide) (by rfl) (pa_cons (pv 0) (pa_cons pe_int pa_nil))) (fun _ _ => rfl))))))))
theorem ok_namesL (T : Tx K mg) (c_drawL : Cal P w K mg base 1 "_law_draw" (spN (kw P w K) f_drawL 2)) (c_nameL : Cal P w K mg base 2 "_law_name" (spN (kw P w K) f_nameL 1)) : Cal P w K mg base 3 "_law_names" (spN (kw P w K) f_namesL 2) := by
  refine cal_of (t := t_namesL (kw P w K)) T.d_namesL (fun _ _ _ _ _ _ us hl => match us, hl with | [_, _], _ => rfl) sc_namesL (fun vs H Q E h => h.1) (fun cdv f A outer s H E hr => ?_) (fun vs H Q E h => pure_of (N := n_namesL) (m := m_namesL) (fun B W => ss_namesL) vs H Q E h.2)
  exact (pss_cons (ps_set (i := 2) sc_namesL.nd rfl (Or.inr rfl) pe_str)
      (pss_cons (ps_setLc (i := 3) (own := [("_law_k", 9)]) (by rfl) sc_namesL.nd rfl rfl (sw_true rfl rfl rfl (by decide +kernel)) (pi_range1 (by rfl) T.z_range (pa_cons pe_int pa_nil)) (blkOk_by (own := [("_law_k", 9)]) (N := n_namesL) (sc := defScope s_namesL) (by decide +kernel)) (fun _ _ _ _ _ => (pg_name (i := 9) sc_namesL.nd rfl (Or.inl rfl))) (fun _ _ _ _ _ => pts_nil) (fun _ _ _ _ _ => (pe_op op_addU (pe_ix ix_seq (pv 2) (pe_op op_fdiv (pv 9) pe_int) (fun _ _ => rfl)) (pe_ix ix_seq (pv 2) (pe_op op_mod (pv 9) pe_int) (fun _ _ => rfl)))))
      (pss_cons (ps_par (by rfl) sc_namesL.nd rfl rfl (by decide) rfl rfl (pa_cons (pe_c c_drawL hr (by decide) (by rfl) (pa_cons (pv 0) (pa_cons pe_int pa_nil))) (pa_cons (pe_slice sl_U (pe_op op_mulU (pe_c c_nameL hr (by decide) (by rfl) (pa_cons (pv 0) pa_nil)) pe_int) po_none (po_some pe_int)) pa_nil)) (by rfl))
      (pss_cons (ps_par3 (by rfl) sc_namesL.nd rfl rfl rfl (by decide) (by decide) (by decide) rfl rfl rfl (pa_cons (pe_c c_drawL hr (by decide) (by rfl) (pa_cons (pv 0) (pa_cons pe_int pa_nil))) (pa_cons pe_int (pa_cons (pe_lst pa_nil) pa_nil))) (by rfl))
      (pss_cons (ps_for PassesOwn.never rfl (pi_range1 (by rfl) T.z_range (pa_cons (pv 1) pa_nil)) (pg_name (i := 9) sc_namesL.nd rfl (Or.inl rfl)) (pss_cons (ps_set (i := 10) sc_namesL.nd rfl (Or.inl rfl) (pe_ifExp (pt_cmpR (op_eqU hr) (pv 4) pe_int (nomark _)) (pe_c c_drawL hr (by decide) (by rfl) (pa_cons (pv 0) (pa_cons pe_int pa_nil))) (pv 4)))
      (pss_cons (ps_if (pt_cmpR (op_eqU hr) (pv 10) pe_int (nomark _)) (pss_one (ps_set (i := 11) sc_namesL.nd rfl (Or.inl rfl) (pe_c c_nameL hr (by decide) (by rfl) (pa_cons (pv 0) pa_nil)))) (pss_one (ps_if (pt_cmpR (op_eqU hr) (pv 10) pe_int (nomark _)) (pss_one (ps_set (i := 11) sc_namesL.nd rfl (Or.inl rfl) (pe_op op_addU (pe_op op_addU (pe_slice sl_U (pv 5) po_none (po_some (pv 6))) (pe_ix ix_seq (pv 2) (pe_c c_drawL hr (by decide) (by rfl) (pa_cons (pv 0) (pa_cons pe_int pa_nil))) (fun _ _ => rfl))) (pe_slice sl_U (pv 5) (po_some (pe_op op_addU (pv 6) pe_int)) po_none)))) (pss_one (ps_set (i := 11) sc_namesL.nd rfl (Or.inl rfl) (pe_slice sl_U (pv 5) po_none (po_some (pe_op op_addU pe_int (pe_c c_drawL hr (by decide) (by rfl) (pa_cons (pv 0) (pa_cons pe_int pa_nil)))))))))))
      (pss_cons (ps_while PassesOwn.never (pt_cmpR (op_inU hr) (pv 11) (pv 8) rfl) (pss_cons (ps_set (i := 11) sc_namesL.nd rfl (Or.inl rfl) (pe_ix ix_seq (pv 3) (pv 7) (fun _ _ => rfl)))
      (pss_one (ps_set (i := 7) sc_namesL.nd rfl (Or.inl rfl) (pe_op op_addU (pv 7) pe_int)))))
      (pss_one (ps_expr (pe_bm PySem.F.plainAttrs_list PySem.F.slot_list_append PySem.F.type_list_append mt_append (pv 8) (pa_cons (pv 11) pa_nil))))))))
      (pss_one (ps_ret (pv 8))))))))
theorem ok_begin_of (T : Tx K mg) : Cal P w K mg base 1 "begin_of" (spN (kw P w K) f_begin_of 1) := by
  refine cal_of (t := t_begin_of (kw P w K)) T.d_begin_of (fun _ _ _ _ _ _ us hl => match us, hl with | [_], _ => rfl) sc_begin_of (fun vs H Q E h => h.1) (fun cdv f A outer s H E hr => ?_) (fun vs H Q E h => pure_of (N := n_begin_of) (m := m_begin_of) (fun B W => ss_begin_of) vs H Q E h.2)
  exact (pss_one (ps_ret (pe_op op_addU pe_str (pv 0))))
theorem ok_end_of (T : Tx K mg) : Cal P w K mg base 1 "end_of" (spN (kw P w K) f_end_of 1) := by
  refine cal_of (t := t_end_of (kw P w K)) T.d_end_of (fun _ _ _ _ _ _ us hl => match us, hl with | [_], _ => rfl) sc_end_of (fun vs H Q E h => h.1) (fun cdv f A outer s H E hr => ?_) (fun vs H Q E h => pure_of (N := n_end_of) (m := m_end_of) (fun B W => ss_end_of) vs H Q E h.2)
  exact (pss_one (ps_ret (pe_op op_addU pe_str (pv 0))))
theorem ok_row_of (T : Tx K mg) (c_begin_of : Cal P w K mg base 1 "begin_of" (spN (kw P w K) f_begin_of 1)) (c_end_of : Cal P w K mg base 1 "end_of" (spN (kw P w K) f_end_of 1)) : Cal P w K mg base 2 "row_of" (spN (kw P w K) f_row_of 1) := by
  refine cal_of (t := t_row_of (kw P w K)) T.d_row_of (fun _ _ _ _ _ _ us hl => match us, hl with | [_], _ => rfl) sc_row_of (fun vs H Q E h => h.1) (fun cdv f A outer s H E hr => ?_) (fun vs H Q E h => pure_of (N := n_row_of) (m := m_row_of) (fun B W => ss_row_of) vs H Q E h.2)
  exact (pss_cons (ps_set (i := 1) sc_row_of.nd rfl (Or.inl rfl) (pe_lst pa_nil))
      (pss_cons (ps_set (i := 2) sc_row_of.nd rfl (Or.inl rfl) (pe_callTy call_list_of (by rfl) T.z_list (by decide +kernel) (pa_cons (pe_revF (pv 0)) pa_nil)))
      (pss_cons (ps_while PassesOwn.never (pt_cmpR (op_neU hr) (pv 2) (pe_lst pa_nil) (nomark _)) (pss_cons (ps_set (i := 3) sc_row_of.nd rfl (Or.inl rfl) (pe_bm0 PySem.F.plainAttrs_list PySem.F.slot_list_pop PySem.F.type_list_pop mt_pop (pv 2)))
      (pss_one (ps_if (pt_val (pe_callB call_isi (by rfl) T.z_isinstance (by decide +kernel) (pa_cons (pv 3) (pa_cons (pe_bltn (by rfl) T.z_str (by decide +kernel) rfl) pa_nil)))) (pss_one (ps_expr (pe_bm PySem.F.plainAttrs_list PySem.F.slot_list_append PySem.F.type_list_append mt_append (pv 1) (pa_cons (pv 3) pa_nil)))) (pss_cons (ps_expr (pe_bm PySem.F.plainAttrs_list PySem.F.slot_list_append PySem.F.type_list_append mt_append (pv 1) (pa_cons (pe_c c_begin_of hr (by decide) (by rfl) (pa_cons (pe_ix ix_seq (pv 3) pe_int (fun _ _ => rfl)) pa_nil)) pa_nil)))
      (pss_cons (ps_expr (pe_bm PySem.F.plainAttrs_list PySem.F.slot_list_append PySem.F.type_list_append mt_append (pv 2) (pa_cons (pe_c c_end_of hr (by decide) (by rfl) (pa_cons (pe_ix ix_seq (pv 3) pe_int (fun _ _ => rfl)) pa_nil)) pa_nil)))
      (pss_one (ps_expr (pe_bm PySem.F.plainAttrs_list PySem.F.slot_list_extend PySem.F.type_list_extend mt_extU (pv 2) (pa_cons (pe_revF (pe_ix ix_seq (pv 3) pe_int (fun _ _ => rfl))) pa_nil))))))))))
      (pss_one (ps_ret (pe_callTy call_tupleF (by rfl) T.z_tuple (by decide +kernel) (pa_cons (pv 1) pa_nil)))))))
theorem ok_names_of (T : Tx K mg) (c_row_of : Cal P w K mg base 2 "row_of" (spN (kw P w K) f_row_of 1)) : Cal P w K mg base 3 "names_of" (spN (kw P w K) f_names_of 1) := by
  refine cal_of (t := t_names_of (kw P w K)) T.d_names_of (fun _ _ _ _ _ _ us hl => match us, hl with | [_], _ => rfl) sc_names_of (fun vs H Q E h => h.1) (fun cdv f A outer s H E hr => ?_) (fun vs H Q E h => pure_of (N := n_names_of) (m := m_names_of) (fun B W => ss_names_of) vs H Q E h.2)
  exact (pss_one (ps_ret (pe_callTy call_tupleF (by rfl) T.z_tuple (by decide +kernel) (pa_cons (pe_lc (own := [("end", 1)]) (by rfl) sc_names_of.nd (pi_seq (pe_c c_row_of hr (by decide) (by rfl) (pa_cons (pv 0) pa_nil))) (blkOk_by (own := [("end", 1)]) (N := n_names_of) (sc := defScope s_names_of) (by decide +kernel)) (fun _ _ _ _ _ => (pg_name (i := 1) sc_names_of.nd rfl (Or.inl rfl))) (fun _ _ _ _ _ => (pts_one (pt_cmpR (op_eqU hr) (pe_ix ix_seq (pv 1) pe_int (fun _ _ => rfl)) pe_str (nomark _)))) (fun _ _ _ _ _ => (pe_slice sl_U (pv 1) (po_some pe_int) po_none))) pa_nil))))
theorem ok_require_alike (T : Tx K mg) (c_names_of : Cal P w K mg base 3 "names_of" (spN (kw P w K) f_names_of 1)) : Cal P w K mg base 4 "require_alike" (spN (kw P w K) f_require_alike 2) := by
  refine cal_of (t := t_require_alike (kw P w K)) T.d_require_alike (fun _ _ _ _ _ _ us hl => match us, hl with | [_, _], _ => rfl) sc_require_alike (fun vs H Q E h => h.1) (fun cdv f A outer s H E hr => ?_) (fun vs H Q E h => pure_of (N := n_require_alike) (m := m_require_alike) (fun B W => ss_require_alike) vs H Q E h.2)
  exact (pss_one (ps_if (pt_cmpR (op_neU hr) (pe_callB cr_sortedSA (by rfl) T.z_sorted (by decide +kernel) (pa_cons (pe_c c_names_of hr (by decide) (by rfl) (pa_cons (pv 0) pa_nil)) pa_nil)) (pe_callB cr_sortedSA (by rfl) T.z_sorted (by decide +kernel) (pa_cons (pe_c c_names_of hr (by decide) (by rfl) (pa_cons (pv 1) pa_nil)) pa_nil)) (nomark _)) (pss_one ps_never) pss_nil))
theorem ok_places (T : Tx K mg) (c_names_of : Cal P w K mg base 3 "names_of" (spN (kw P w K) f_names_of 1)) : Cal P w K mg base 4 "places" (spN (kw P w K) f_places 1) := by
  refine cal_of (t := t_places (kw P w K)) T.d_places (fun _ _ _ _ _ _ us hl => match us, hl with | [_], _ => rfl) sc_places (fun vs H Q E h => h.1) (fun cdv f A outer s H E hr => ?_) (fun vs H Q E h => pure_of (N := n_places) (m := m_places) (fun B W => ss_places) vs H Q E h.2)
  exact (pss_one (ps_ret (pe_dc (own := [("place", 1), ("name", 2)]) (by rfl) sc_places.nd (pi_enumT (by rfl) T.z_enumerate (pa_cons (pe_c c_names_of hr (by decide) (by rfl) (pa_cons (pv 0) pa_nil)) pa_nil)) (blkOk_by (own := [("place", 1), ("name", 2)]) (N := n_places) (sc := defScope s_places) (by decide +kernel)) (fun _ _ _ _ _ => (pg_tup rfl (pgs_cons (pg_name (i := 1) sc_places.nd rfl (Or.inl rfl)) (pgs_cons (pg_name (i := 2) sc_places.nd rfl (Or.inl rfl)) pgs_nil)))) (fun _ _ _ _ _ => pts_nil) (fun _ _ _ _ _ => (pv 2)) (fun _ _ _ _ _ => (pv 1)))))
theorem ok_all_parents (T : Tx K mg) : Cal P w K mg base 1 "all_parents" (spN (kw P w K) f_all_parents 1) := by
  refine cal_of (t := t_all_parents (kw P w K)) T.d_all_parents (fun _ _ _ _ _ _ us hl => match us, hl with | [_], _ => rfl) sc_all_parents (fun vs H Q E h => h.1) (fun cdv f A outer s H E hr => ?_) (fun vs H Q E h => pure_of (N := n_all_parents) (m := m_all_parents) (fun B W => ss_all_parents) vs H Q E h.2)
  exact (pss_cons (ps_set (i := 1) sc_all_parents.nd rfl (Or.inl rfl) pe_dnewK)
      (pss_cons (ps_setLc (i := 2) (own := [("tree", 4)]) (by rfl) sc_all_parents.nd rfl rfl (sw_true rfl rfl rfl (by decide +kernel)) (pi_seq (pv 0)) (blkOk_by (own := [("tree", 4)]) (N := n_all_parents) (sc := defScope s_all_parents) (by decide +kernel)) (fun _ _ _ _ _ => (pg_name (i := 4) sc_all_parents.nd rfl (Or.inl rfl))) (fun _ _ _ _ _ => pts_nil) (fun _ _ _ _ _ => (pe_tupF (pa_cons pe_non (pa_cons (pv 4) pa_nil)))))
      (pss_cons (ps_while PassesOwn.never (pt_cmpR (op_neU hr) (pv 2) (pe_lst pa_nil) (nomark _)) (pss_cons (ps_asg (pe_bm0 PySem.F.plainAttrs_list PySem.F.slot_list_pop PySem.F.type_list_pop mt_pop (pv 2)) (pg_tup rfl (pgs_cons (pg_name (i := 3) sc_all_parents.nd rfl (Or.inl rfl)) (pgs_cons (pg_name (i := 4) sc_all_parents.nd rfl (Or.inr rfl)) pgs_nil))))
      (pss_cons (ps_dput (hu_of hr) (pv 1) (pe_ix ix_seq (pv 4) pe_int (fun _ _ => rfl)) (pv 3) rfl)
      (pss_one (ps_expr (pe_bm PySem.F.plainAttrs_list PySem.F.slot_list_extend PySem.F.type_list_extend mt_extU (pv 2) (pa_cons (pe_lc (own := [("part", 5)]) (by rfl) sc_all_parents.nd (pi_seq (pe_ix ix_seq (pv 4) pe_int (fun _ _ => rfl))) (blkOk_by (own := [("part", 5)]) (N := n_all_parents) (sc := defScope s_all_parents) (by decide +kernel)) (fun _ _ _ _ _ => (pg_name (i := 5) sc_all_parents.nd rfl (Or.inl rfl))) (fun _ _ _ _ _ => pts_nil) (fun _ _ _ _ _ => (pe_tupF (pa_cons (pe_ix ix_seq (pv 4) pe_int (fun _ _ => rfl)) (pa_cons (pv 5) pa_nil))))) pa_nil)))))))
      (pss_one (ps_ret (pv 1))))))
theorem ok_staying (T : Tx K mg) (c_all_parents : Cal P w K mg base 1 "all_parents" (spN (kw P w K) f_all_parents 1)) (c_names_of : Cal P w K mg base 3 "names_of" (spN (kw P w K) f_names_of 1)) : Cal P w K mg base 4 "staying" (spN (kw P w K) f_staying 2) := by
  refine cal_of (t := t_staying (kw P w K)) T.d_staying (fun _ _ _ _ _ _ us hl => match us, hl with | [_, _], _ => rfl) sc_staying (fun vs H Q E h => h.1) (fun cdv f A outer s H E hr => ?_) (fun vs H Q E h => pure_of (N := n_staying) (m := m_staying) (fun B W => ss_staying) vs H Q E h.2)
  exact (pss_cons (ps_asg (pe_tupF (pa_cons (pe_c c_all_parents hr (by decide) (by rfl) (pa_cons (pv 0) pa_nil)) (pa_cons (pe_c c_all_parents hr (by decide) (by rfl) (pa_cons (pv 1) pa_nil)) pa_nil))) (pg_tup rfl (pgs_cons (pg_name (i := 2) sc_staying.nd rfl (Or.inr rfl)) (pgs_cons (pg_name (i := 3) sc_staying.nd rfl (Or.inr rfl)) pgs_nil))))
      (pss_one (ps_ret (pe_lc (own := [("name", 4)]) (by rfl) sc_staying.nd (pi_seq (pe_c c_names_of hr (by decide) (by rfl) (pa_cons (pv 0) pa_nil))) (blkOk_by (own := [("name", 4)]) (N := n_staying) (sc := defScope s_staying) (by decide +kernel)) (fun _ _ _ _ _ => (pg_name (i := 4) sc_staying.nd rfl (Or.inl rfl))) (fun _ _ _ _ _ => (pts_one (pt_cmpR (op_eqU hr) (pe_dget (hu_of hr) (pv 2) (pv 4) (fun _ _ => rfl)) (pe_dget (hu_of hr) (pv 3) (pv 4) (fun _ _ => rfl)) (nomark _)))) (fun _ _ _ _ _ => (pe_tupF (pa_cons (pv 4) (pa_cons (pe_dget (hu_of hr) (pv 2) (pv 4) (fun _ _ => rfl)) pa_nil))))))))
theorem ok_lengths (T : Tx K mg) (c_places : Cal P w K mg base 4 "places" (spN (kw P w K) f_places 1)) (c_staying : Cal P w K mg base 4 "staying" (spN (kw P w K) f_staying 2)) : Cal P w K mg base 5 "lengths" (spN (kw P w K) f_lengths 2) := by
  refine cal_of (t := t_lengths (kw P w K)) T.d_lengths (fun _ _ _ _ _ _ us hl => match us, hl with | [_, _], _ => rfl) sc_lengths (fun vs H Q E h => h.1) (fun cdv f A outer s H E hr => ?_) (fun vs H Q E h => pure_of (N := n_lengths) (m := m_lengths) (fun B W => ss_lengths) vs H Q E h.2)
  exact (pss_cons (ps_set (i := 2) sc_lengths.nd rfl (Or.inl rfl) (pe_c c_places hr (by decide) (by rfl) (pa_cons (pv 1) pa_nil)))
      (pss_cons (ps_set (i := 3) sc_lengths.nd rfl (Or.inl rfl) pe_dnewK)
      (pss_cons (ps_set (i := 4) sc_lengths.nd rfl (Or.inl rfl) pe_lnew)
      (pss_cons (ps_for PassesOwn.never rfl (pi_seq (pe_c c_staying hr (by decide) (by rfl) (pa_cons (pv 0) (pa_cons (pv 1) pa_nil)))) (pg_tup rfl (pgs_cons (pg_name (i := 5) sc_lengths.nd rfl (Or.inl rfl)) (pgs_cons (pg_name (i := 6) sc_lengths.nd rfl (Or.inl rfl)) pgs_nil))) (pss_cons (ps_set (i := 7) sc_lengths.nd rfl (Or.inl rfl) (pe_lsetd (pv 4) (pv 6) (pe_lst pa_nil) ⟨rfl, rfl, rfl, rfl⟩))
      (pss_cons (ps_set (i := 8) sc_lengths.nd rfl (Or.inl rfl) pe_int)
      (pss_cons (ps_for PassesOwn.never rfl (pi_seq (pv 7)) (pg_name (i := 9) sc_lengths.nd rfl (Or.inl rfl)) (pss_one (ps_if (PW.pt (pw_and (pt_cmpR op_ltU (pe_dget (hu_of hr) (pv 2) (pv 9) (fun _ _ => rfl)) (pe_dget (hu_of hr) (pv 2) (pv 5) (fun _ _ => rfl)) (nomark _)) (pw_and1 (pt_cmpR op_gt (pe_dget (hu_of hr) (pv 3) (pv 9) (fun _ _ => rfl)) (pv 8) (nomark _))))) (pss_one (ps_set (i := 8) sc_lengths.nd rfl (Or.inl rfl) (pe_dget (hu_of hr) (pv 3) (pv 9) (fun _ _ => rfl)))) pss_nil)))
      (pss_cons (ps_dput (hu_of hr) (pv 3) (pv 5) (pe_op op_addU (pv 8) pe_int) rfl)
      (pss_one (ps_expr (pe_bm PySem.F.plainAttrs_list PySem.F.slot_list_append PySem.F.type_list_append mt_append (pv 7) (pa_cons (pv 5) pa_nil)))))))))
      (pss_one (ps_ret (pv 3)))))))
theorem ok_resting (T : Tx K mg) (c_lengths : Cal P w K mg base 5 "lengths" (spN (kw P w K) f_lengths 2)) (c_places : Cal P w K mg base 4 "places" (spN (kw P w K) f_places 1)) (c_staying : Cal P w K mg base 4 "staying" (spN (kw P w K) f_staying 2)) : Cal P w K mg base 6 "resting" (spN (kw P w K) f_resting 2) := by
  refine cal_of (t := t_resting (kw P w K)) T.d_resting (fun _ _ _ _ _ _ us hl => match us, hl with | [_, _], _ => rfl) sc_resting (fun vs H Q E h => h.1) (fun cdv f A outer s H E hr => ?_) (fun vs H Q E h => pure_of (N := n_resting) (m := m_resting) (fun B W => ss_resting) vs H Q E h.2)
  exact (pss_cons (ps_set (i := 2) sc_resting.nd rfl (Or.inl rfl) (pe_c c_places hr (by decide) (by rfl) (pa_cons (pv 1) pa_nil)))
      (pss_cons (ps_set (i := 3) sc_resting.nd rfl (Or.inl rfl) (pe_c c_lengths hr (by decide) (by rfl) (pa_cons (pv 0) (pa_cons (pv 1) pa_nil))))
      (pss_cons (ps_set (i := 4) sc_resting.nd rfl (Or.inl rfl) (pe_c c_staying hr (by decide) (by rfl) (pa_cons (pv 0) (pa_cons (pv 1) pa_nil))))
      (pss_cons (ps_set (i := 5) sc_resting.nd rfl (Or.inl rfl) pe_lnew)
      (pss_cons (ps_for PassesOwn.never rfl (pi_seq (pv 4)) (pg_tup rfl (pgs_cons (pg_name (i := 6) sc_resting.nd rfl (Or.inl rfl)) (pgs_cons (pg_name (i := 7) sc_resting.nd rfl (Or.inl rfl)) pgs_nil))) (pss_cons (ps_set (i := 8) sc_resting.nd rfl (Or.inl rfl) (pe_ix ix_seq (pe_lget2 (pv 5) (pv 7) (pe_tupF (pa_cons pe_int (pa_cons pe_int pa_nil))) ⟨rfl, rfl, rfl, rfl⟩) pe_int (fun _ _ => rfl)))
      (pss_one (ps_lput (pv 5) (pv 7) (pe_tupF (pa_cons (pe_ifExp (pt_cmpR op_gt (pe_dget (hu_of hr) (pv 3) (pv 6) (fun _ _ => rfl)) (pv 8) (nomark _)) (pe_dget (hu_of hr) (pv 3) (pv 6) (fun _ _ => rfl)) (pv 8)) (pa_cons (pe_callB call_lenU (by rfl) T.z_len (by decide +kernel) (pa_cons (pv 2) pa_nil)) pa_nil))) rfl))))
      (pss_cons (ps_set (i := 9) sc_resting.nd rfl (Or.inl rfl) (pe_lst pa_nil))
      (pss_cons (ps_for PassesOwn.never rfl (pi_seq (pe_revL (pv 4))) (pg_tup rfl (pgs_cons (pg_name (i := 6) sc_resting.nd rfl (Or.inl rfl)) (pgs_cons (pg_name (i := 7) sc_resting.nd rfl (Or.inl rfl)) pgs_nil))) (pss_cons (ps_asg (pe_lget (pv 5) (pv 7) (fun _ _ => rfl)) (pg_tup rfl (pgs_cons (pg_name (i := 8) sc_resting.nd rfl (Or.inl rfl)) (pgs_cons (pg_name (i := 10) sc_resting.nd rfl (Or.inl rfl)) pgs_nil))))
      (pss_one (ps_if (PW.pt (pw_and (pt_cmpR (op_eqU hr) (pe_dget (hu_of hr) (pv 3) (pv 6) (fun _ _ => rfl)) (pv 8) (nomark _)) (pw_and1 (pt_cmpR op_ltU (pe_dget (hu_of hr) (pv 2) (pv 6) (fun _ _ => rfl)) (pv 10) (nomark _))))) (pss_cons (ps_expr (pe_bm PySem.F.plainAttrs_list PySem.F.slot_list_append PySem.F.type_list_append mt_append (pv 9) (pa_cons (pv 6) pa_nil)))
      (pss_one (ps_lput (pv 5) (pv 7) (pe_tupF (pa_cons (pe_op op_sub (pv 8) pe_int) (pa_cons (pe_dget (hu_of hr) (pv 2) (pv 6) (fun _ _ => rfl)) pa_nil))) rfl))) pss_nil))))
      (pss_one (ps_ret (pv 9))))))))))
theorem ok_least_moves (T : Tx K mg) (c_names_of : Cal P w K mg base 3 "names_of" (spN (kw P w K) f_names_of 1)) (c_require_alike : Cal P w K mg base 4 "require_alike" (spN (kw P w K) f_require_alike 2)) (c_resting : Cal P w K mg base 6 "resting" (spN (kw P w K) f_resting 2)) : Cal P w K mg base 7 "least_moves" (spN (kw P w K) f_least_moves 2) := by
  refine cal_of (t := t_least_moves (kw P w K)) T.d_least_moves (fun _ _ _ _ _ _ us hl => match us, hl with | [_, _], _ => rfl) sc_least_moves (fun vs H Q E h => h.1) (fun cdv f A outer s H E hr => ?_) (fun vs H Q E h => pure_of (N := n_least_moves) (m := m_least_moves) (fun B W => ss_least_moves) vs H Q E h.2)
  exact (pss_cons (ps_expr (pe_c c_require_alike hr (by decide) (by rfl) (pa_cons (pv 0) (pa_cons (pv 1) pa_nil))))
      (pss_one (ps_ret (pe_op op_sub (pe_callB call_lenU (by rfl) T.z_len (by decide +kernel) (pa_cons (pe_c c_names_of hr (by decide) (by rfl) (pa_cons (pv 0) pa_nil)) pa_nil)) (pe_callB call_lenU (by rfl) T.z_len (by decide +kernel) (pa_cons (pe_c c_resting hr (by decide) (by rfl) (pa_cons (pv 0) (pa_cons (pv 1) pa_nil))) pa_nil))))))
theorem ok_law (T : Tx K mg) (c_chainL : Cal P w K mg base 1 "_law_chain" (spN (kw P w K) f_chainL 1)) (c_deckL : Cal P w K mg base 1 "_law_deck" (spN (kw P w K) f_deckL 1)) (c_drawL : Cal P w K mg base 1 "_law_draw" (spN (kw P w K) f_drawL 2)) (c_namesL : Cal P w K mg base 3 "_law_names" (spN (kw P w K) f_namesL 2)) (c_least_moves : Cal P w K mg base 7 "least_moves" (spN (kw P w K) f_least_moves 2)) {f : Addr} {fd : FuncData} (F : FunD K "law" "law" (defArgs s_law) (defBody s_law) (defScope s_law) [] [] f fd) : FnG P w K mg base CX0 8 f fd ["_law_script"] (sp_law K) := by
  refine funD_okG F sc_law (fun vs H Q E h => ?_) (fun cdv A outer s H vs Q E hrG h => have hr := hrG.rm; ⟨t_law (kw P w K), PSs.nox ?_, pure_of (N := n_law) (m := m_law) (fun B W => ss_law) vs H Q E (law_pure law_true vs H Q E h)⟩)
  · obtain ⟨_, _, rfl, _⟩ := h; rfl
  · exact (pss_cons (ps_set (i := 1) sc_law.nd rfl (Or.inl rfl) (pe_c c_deckL hr (by decide) (by rfl) (pa_cons (pv 0) pa_nil)))
      (pss_cons (ps_set (i := 2) sc_law.nd rfl (Or.inl rfl) (pe_op op_addU pe_int (pe_c c_drawL hr (by decide) (by rfl) (pa_cons (pv 1) (pa_cons pe_int pa_nil)))))
      (pss_cons (ps_set (i := 3) sc_law.nd rfl (Or.inl rfl) (pe_c c_namesL hr (by decide) (by rfl) (pa_cons (pv 1) (pa_cons (pe_op op_addU (pv 2) pe_int) pa_nil))))
      (pss_cons (ps_par (by rfl) sc_law.nd rfl rfl (by decide) rfl rfl (pa_cons (pe_ix ix_seq (pv 3) pe_int (fun _ _ => rfl)) (pa_cons (pe_slice sl_U (pv 3) (po_some pe_int) po_none) pa_nil)) (by rfl))
      (pss_cons (ps_set (i := 5) sc_law.nd rfl (Or.inl rfl) (pe_c c_drawL hr (by decide) (by rfl) (pa_cons (pv 1) (pa_cons (pe_op op_addU (pv 2) pe_int) pa_nil))))
      (pss_cons (ps_set (i := 6) sc_law.nd rfl (Or.inl rfl) (pe_callTy call_tupleF (by rfl) T.z_tuple (by decide +kernel) (pa_cons (pe_lc (own := [("_law_name_here", 13)]) (by rfl) sc_law.nd (pi_seq (pv 3)) (blkOk_by (own := [("_law_name_here", 13)]) (N := n_law) (sc := defScope s_law) (by decide +kernel)) (fun _ _ _ _ _ => (pg_name (i := 13) sc_law.nd rfl (Or.inl rfl))) (fun _ _ _ _ _ => pts_nil) (fun _ _ _ _ _ => (pe_tupF (pa_cons (pv 13) (pa_cons (pe_tupF pa_nil) pa_nil))))) pa_nil)))
      (pss_cons (ps_set (i := 7) sc_law.nd rfl (Or.inl rfl) (pe_c c_chainL hr (by decide) (by rfl) (pa_cons (pe_slice sl_U (pv 3) po_none (po_some pe_int)) pa_nil)))
      (pss_cons (ps_set (i := 8) sc_law.nd rfl (Or.inl rfl) (pe_callB call_lenU (by rfl) T.z_len (by decide +kernel) (pa_cons (pe_slice sl_U (pv 3) po_none (po_some pe_int)) pa_nil)))
      (pss_cons (ps_set (i := 9) sc_law.nd rfl (Or.inl rfl) (pe_lst (pa_cons (pe_tupF (pa_cons (pv 6) (pa_cons (pe_revF (pv 6)) (pa_cons (pe_op op_sub (pv 2) pe_int) pa_nil)))) (pa_cons (pe_tupF (pa_cons (pv 6) (pa_cons (pe_op op_addU (pe_slice sl_U (pv 6) (po_some (pv 5)) po_none) (pe_slice sl_U (pv 6) po_none (po_some (pv 5)))) (pa_cons (pe_callB (call_min2 rfl) (by rfl) T.z_min (by decide +kernel) (pa_cons (pv 5) (pa_cons (pe_op op_sub (pv 2) (pv 5)) pa_nil))) pa_nil)))) pa_nil))))
      (pss_cons (ps_expr (pe_bm PySem.F.plainAttrs_list PySem.F.slot_list_append PySem.F.type_list_append mt_append (pv 9) (pa_cons (pe_tupF (pa_cons (pv 7) (pa_cons (pe_c c_chainL hr (by decide) (by rfl) (pa_cons (pe_revL (pe_slice sl_U (pv 3) po_none (po_some pe_int))) pa_nil)) (pa_cons (pe_op op_mulU (pv 8) (pe_callTy call_int1 (by rfl) T.z_int (by decide +kernel) (pa_cons (pe_cmpR op_gt (pv 8) pe_int (nomark _)) pa_nil))) pa_nil)))) pa_nil)))
      (pss_cons (ps_expr (pe_bm PySem.F.plainAttrs_list PySem.F.slot_list_append PySem.F.type_list_append mt_append (pv 9) (pa_cons (pe_tupF (pa_cons (pv 7) (pa_cons (pe_slice sl_U (pv 6) po_none (po_some (pv 8))) (pa_cons (pe_op op_sub (pv 8) pe_int) pa_nil)))) pa_nil)))
      (pss_cons (ps_for PassesOwn.never rfl (pi_seq (pv 9)) (pg_tup rfl (pgs_cons (pg_name (i := 10) sc_law.nd rfl (Or.inl rfl)) (pgs_cons (pg_name (i := 11) sc_law.nd rfl (Or.inl rfl)) (pgs_cons (pg_name (i := 12) sc_law.nd rfl (Or.inl rfl)) pgs_nil)))) (pss_cons (ps_if (PW.pt (pw_or (pt_cmpR (op_neU hr) (pe_c c_least_moves hr (by decide) (by rfl) (pa_cons (pv 10) (pa_cons (pv 11) pa_nil))) (pv 12) (nomark _)) (pw_or1 (pt_cmpR (op_neU hr) (pe_c c_least_moves hr (by decide) (by rfl) (pa_cons (pv 11) (pa_cons (pv 10) pa_nil))) (pv 12) (nomark _))))) (pss_one (ps_ret pe_bl)) pss_nil)
      (pss_one (ps_if (pt_cmpR (op_neU hr) (pe_c c_least_moves hr (by decide) (by rfl) (pa_cons (pe_tupF (pa_cons (pe_tupF (pa_cons (pv 4) (pa_cons (pv 10) pa_nil))) pa_nil)) (pa_cons (pe_tupF (pa_cons (pe_tupF (pa_cons (pv 4) (pa_cons (pv 11) pa_nil))) pa_nil)) pa_nil))) (pv 12) (nomark _)) (pss_one (ps_ret pe_bl)) pss_nil))))
      (pss_one (ps_ret pe_bl))))))))))))))
theorem ok_all (T : Tx K mg) {f : Addr} {fd : FuncData} (F : FunD K "law" "law" (defArgs s_law) (defBody s_law) (defScope s_law) [] [] f fd) : FnG P w K mg base CX0 8 f fd ["_law_script"] (sp_law K) := by
  have c_chainL := ok_chainL (P := P) (w := w) (base := base) T
  have c_deckL := ok_deckL (P := P) (w := w) (base := base) T
  have c_drawL := ok_drawL (P := P) (w := w) (base := base) T
  have c_nameL := ok_nameL (P := P) (w := w) (base := base) T c_drawL
  have c_namesL := ok_namesL (P := P) (w := w) (base := base) T c_drawL c_nameL
  have c_begin_of := ok_begin_of (P := P) (w := w) (base := base) T
  have c_end_of := ok_end_of (P := P) (w := w) (base := base) T
  have c_row_of := ok_row_of (P := P) (w := w) (base := base) T c_begin_of c_end_of
  have c_names_of := ok_names_of (P := P) (w := w) (base := base) T c_row_of
  have c_require_alike := ok_require_alike (P := P) (w := w) (base := base) T c_names_of
  have c_places := ok_places (P := P) (w := w) (base := base) T c_names_of
  have c_all_parents := ok_all_parents (P := P) (w := w) (base := base) T
  have c_staying := ok_staying (P := P) (w := w) (base := base) T c_all_parents c_names_of
  have c_lengths := ok_lengths (P := P) (w := w) (base := base) T c_places c_staying
  have c_resting := ok_resting (P := P) (w := w) (base := base) T c_lengths c_places c_staying
  have c_least_moves := ok_least_moves (P := P) (w := w) (base := base) T c_names_of c_require_alike c_resting
  exact ok_law T c_chainL c_deckL c_drawL c_namesL c_least_moves F
end
/-! ### the head -/
theorem obD_eq (s : PySem.W.SharedT) : obD s = hkD.obs s.abs := obsXG_eq (HandSHeadRun.getT_eq s)
theorem facts {P : Program} {w : World} {K : PySem.W.Frag} {h : Heap} {mg : Str → Option Value} {f : Addr} (X : K.In h) (G : h.Ns mainGlobals mg) (hfa : mg ("law" : Str) = some (.ref f)) (c : SaysX chkD faD fnD K) :
    ∃ fd : FuncData, (∀ (s : Shared) (v : Value), BindsTo s fd ⟨[v], []⟩ [("_law_script", v)]) ∧ ∀ base : Heap, K.In base → base.Ns mainGlobals mg → FnG P w K mg base CX0 8 f fd ["_law_script"] (sp_law K) := by
  obtain ⟨fd_chainL, F_chainL⟩ := c.d.def_ 0 (d := dd_chainL) rfl
  have g_chainL := He.glo_ok X G (c.d.fact 0 (f := .glo "_law_chain") rfl)
  obtain ⟨fd_deckL, F_deckL⟩ := c.d.def_ 1 (d := dd_deckL) rfl
  have g_deckL := He.glo_ok X G (c.d.fact 1 (f := .glo "_law_deck") rfl)
  obtain ⟨fd_drawL, F_drawL⟩ := c.d.def_ 2 (d := dd_drawL) rfl
  have g_drawL := He.glo_ok X G (c.d.fact 2 (f := .glo "_law_draw") rfl)
  obtain ⟨fd_nameL, F_nameL⟩ := c.d.def_ 3 (d := dd_nameL) rfl
  have g_nameL := He.glo_ok X G (c.d.fact 3 (f := .glo "_law_name") rfl)
  obtain ⟨fd_namesL, F_namesL⟩ := c.d.def_ 4 (d := dd_namesL) rfl
  have g_namesL := He.glo_ok X G (c.d.fact 4 (f := .glo "_law_names") rfl)
  obtain ⟨fd_begin_of, F_begin_of⟩ := c.d.def_ 5 (d := dd_begin_of) rfl
  have g_begin_of := He.glo_ok X G (c.d.fact 5 (f := .glo "begin_of") rfl)
  obtain ⟨fd_end_of, F_end_of⟩ := c.d.def_ 6 (d := dd_end_of) rfl
  have g_end_of := He.glo_ok X G (c.d.fact 6 (f := .glo "end_of") rfl)
  obtain ⟨fd_row_of, F_row_of⟩ := c.d.def_ 7 (d := dd_row_of) rfl
  have g_row_of := He.glo_ok X G (c.d.fact 7 (f := .glo "row_of") rfl)
  obtain ⟨fd_names_of, F_names_of⟩ := c.d.def_ 8 (d := dd_names_of) rfl
  have g_names_of := He.glo_ok X G (c.d.fact 8 (f := .glo "names_of") rfl)
  obtain ⟨fd_require_alike, F_require_alike⟩ := c.d.def_ 9 (d := dd_require_alike) rfl
  have g_require_alike := He.glo_ok X G (c.d.fact 9 (f := .glo "require_alike") rfl)
  obtain ⟨fd_places, F_places⟩ := c.d.def_ 10 (d := dd_places) rfl
  have g_places := He.glo_ok X G (c.d.fact 10 (f := .glo "places") rfl)
  obtain ⟨fd_all_parents, F_all_parents⟩ := c.d.def_ 11 (d := dd_all_parents) rfl
  have g_all_parents := He.glo_ok X G (c.d.fact 11 (f := .glo "all_parents") rfl)
  obtain ⟨fd_staying, F_staying⟩ := c.d.def_ 12 (d := dd_staying) rfl
  have g_staying := He.glo_ok X G (c.d.fact 12 (f := .glo "staying") rfl)
  obtain ⟨fd_lengths, F_lengths⟩ := c.d.def_ 13 (d := dd_lengths) rfl
  have g_lengths := He.glo_ok X G (c.d.fact 13 (f := .glo "lengths") rfl)
  obtain ⟨fd_resting, F_resting⟩ := c.d.def_ 14 (d := dd_resting) rfl
  have g_resting := He.glo_ok X G (c.d.fact 14 (f := .glo "resting") rfl)
  obtain ⟨fd_least_moves, F_least_moves⟩ := c.d.def_ 15 (d := dd_least_moves) rfl
  have g_least_moves := He.glo_ok X G (c.d.fact 15 (f := .glo "least_moves") rfl)
  obtain ⟨fd_law, F_law⟩ := c.d.def_ 16 (d := dd_law) rfl
  have g_law := He.glo_ok X G (c.d.fact 16 (f := .glo "law") rfl)
  have ck := c.test
  have T : Tx K mg := ⟨He.free_ok X G (c.d.fact 17 (f := .free "abs") rfl), He.free_ok X G (c.d.fact 18 (f := .free "enumerate") rfl), He.free_ok X G (c.d.fact 19 (f := .free "int") rfl), He.free_ok X G (c.d.fact 20 (f := .free "isinstance") rfl), He.free_ok X G (c.d.fact 21 (f := .free "len") rfl), He.free_ok X G (c.d.fact 22 (f := .free "list") rfl), He.free_ok X G (c.d.fact 23 (f := .free "min") rfl), He.free_ok X G (c.d.fact 24 (f := .free "range") rfl), He.free_ok X G (c.d.fact 25 (f := .free "sorted") rfl), He.free_ok X G (c.d.fact 26 (f := .free "str") rfl), He.free_ok X G (c.d.fact 27 (f := .free "tuple") rfl), ⟨_, _, F_chainL, g_chainL⟩, ⟨_, _, F_deckL, g_deckL⟩, ⟨_, _, F_drawL, g_drawL⟩, ⟨_, _, F_nameL, g_nameL⟩, ⟨_, _, F_namesL, g_namesL⟩, ⟨_, _, F_begin_of, g_begin_of⟩, ⟨_, _, F_end_of, g_end_of⟩, ⟨_, _, F_row_of, g_row_of⟩, ⟨_, _, F_names_of, g_names_of⟩, ⟨_, _, F_require_alike, g_require_alike⟩, ⟨_, _, F_places, g_places⟩, ⟨_, _, F_all_parents, g_all_parents⟩, ⟨_, _, F_staying, g_staying⟩, ⟨_, _, F_lengths, g_lengths⟩, ⟨_, _, F_resting, g_resting⟩, ⟨_, _, F_least_moves, g_least_moves⟩, ⟨_, _, F_law, g_law⟩⟩
  have e := hfa.symm.trans g_law
  cases e
  have b := FunD.bindsA (ps := ["_law_script"]) F_law fun _ _ _ _ _ _ us hl => match us, hl with | [_], _ => rfl
  exact ⟨fd_law, fun s v => b s [v] rfl, fun base _ _ => ok_all T F_law⟩

end Tw
open PySem PySem.W PySem.Calls PyProof.Rows
set_option maxHeartbeats 0 in
theorem PySem.Challenge.cw_twigscripts_k71_known_numbers_of_moves_holds : PySem.Challenge.rw_twigscripts_k71_known_numbers_of_moves.Holds := by
  w_on; o_law
  refine HandSHeadRun.head_any (r := OpenLaw.row PySem.Challenge.rw_twigscripts_k71_known_numbers_of_moves) (q := view (OpenLaw.row PySem.Challenge.rw_twigscripts_k71_known_numbers_of_moves).prog [23]) (H := Tw.hkD) (ob := Tw.obD) (M := 4000) (loose := Tw.looseD) (d := HandSHeadRun.topDef (OpenLaw.row PySem.Challenge.rw_twigscripts_k71_known_numbers_of_moves).prog 23) (kwd := []) Tw.obD_eq
    (by kernel_rfl) (fun s => by kernel_rfl) Tw.runD (by kernel_rfl) (by kernel_rfl) (by kernel_rfl) (by rfl) (by first | assumption | decide +kernel) (by decide +kernel) ⟨rfl, rfl, rfl, rfl, rfl, by decide +kernel⟩ ?hw ?hc
  case hw => w_witness2
  case hc =>
    refine Tw.walk_ofG (l := PySem.Challenge.rw_twigscripts_k71_known_numbers_of_moves) (n := 63) (k := 8) (x := "_law_script") (CX := L2.CX0) rfl (by decide) (by kernel_rfl) ⟨⟨rfl, by decide, by decide⟩, rfl⟩ ?F (fun _ _ _ _ z => z)
    intro w mg fa h Y G hmg0
    obtain ⟨K, KX, c⟩ := Y
    have hmg : mg ("law" : PySem.Str) = some (.ref fa) := by
      have e : (HandSHeadRun.topDef (OpenLaw.row PySem.Challenge.rw_twigscripts_k71_known_numbers_of_moves).prog 23).name = ("law" : PySem.Str) := by kernel_rfl
      rw [← e]
      exact hmg0
    obtain ⟨fd, hb, hF⟩ := Tw.facts (P := (PySem.Challenge.rw_twigscripts_k71_known_numbers_of_moves).prog) (w := w) KX G hmg c
    exact ⟨K, fd, Tw.sp_law K, KX, hb, fun H a ns hl _ hS => ⟨a, ns, rfl, hS, hl, fun _ => rfl⟩, hF⟩

