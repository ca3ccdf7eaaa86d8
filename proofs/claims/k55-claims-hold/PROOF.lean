import PyProof.Rows.All
import Wide.All
import OpenK.AllK
import Wide.FinOn
import PyProof.EqAt
import PyProof.EqKinds
import PyProof.TupleCall
import PyProof.NeData
import KE.KMathG
import HandS.ForMost
import HandS.Exc
import HandS.ExcOwn
import HandS.ExcInit
import HandS.ExcField
import HandS.ExcIs
import HandS.TryOnly
import HandS.TryMany
import HandS.WordsExc
import HandS.Style
import HandS.IsInst
import HandS.More
import HandS.Gcd
import HandS.Evl
import HandS.HotCalls
import HandS.TupAny
import PySem.Challenge.RW_fewfounders_k55_claims_hold
import KE.KExcIs
import HandS.ExcCtx
import HandS.ExcInitHot
set_option Elab.async false
set_option linter.all false
set_option maxRecDepth 100000
set_option maxHeartbeats 4000000
namespace Kf
open PySem L2 Evl

/-! ### a def that stands in the module under its name -/
structure Df (P : Program) (w : World) (K : PySem.W.Frag) (mg : Str → Option Value) (base : Heap) (CX : CXT) (name : Str) (k : Nat) (ps : List Str) (sp : Sp) : Prop where
  ex : ∃ (f : Addr) (fd : FuncData), mg name = some (.ref f) ∧ PySem.W.keepIn K (.ref f) = true ∧ Binds K fd ps [] ∧ FnOk P w K mg base CX k f fd ps sp
theorem Df.mono {P : Program} {w : World} {K : PySem.W.Frag} {mg : Str → Option Value} {base : Heap} {CX : CXT} {name : Str} {j k : Nat} {ps : List Str} {sp : Sp} (D : Df P w K mg base CX name j ps sp) (h : j ≤ k) : Df P w K mg base CX name k ps sp := by
  obtain ⟨f, fd, a, b, c, d⟩ := D.ex
  exact ⟨f, fd, a, b, c, d.mono h⟩
theorem Df.imp {P : Program} {w : World} {K : PySem.W.Frag} {mg : Str → Option Value} {base : Heap} {CX : CXT} {name : Str} {k : Nat} {ps : List Str} {sp sp' : Sp} (D : Df P w K mg base CX name k ps sp) (h : ∀ vs H Q E, sp' vs H Q E → sp vs H Q E) : Df P w K mg base CX name k ps sp' := by
  obtain ⟨f, fd, a, b, c, d⟩ := D.ex
  exact ⟨f, fd, a, b, c, d.imp h⟩
theorem pe_df {X : Cx} {CX : CXT} {name : Str} {j k : Nat} {ps : List Str} {sp : Sp} {E : XK} {e : Expr} {es : List Expr} {t : TA} {p pos : Pos}
    (D : Df X.prog X.w X.K X.mg X.base CX name j ps sp) (hr : Room k X.A) (hx : Passes CX X E) (ha : PA X (e :: es) t) (hj : j ≤ k := by omega) (hg : Gl X name := by rfl) (hdb : (name == ("__debug__" : Str)) = false := by decide)
    (he : starEach (e :: es) X.env = (false, eval e X.env) :: starEach es X.env := by rfl) (hpl : (backTo pos (starEach es X.env)).any (·.1) = false := by rfl) :
    PE X (.Call (.Name name p) (e :: es) [] pos) (tCall sp [] E t) := by
  obtain ⟨f, fd, a, b, c, d⟩ := D.ex
  exact pe_call d (hr.mono hj) hg a b c .nil hx ha hdb he hpl

/-! ### the built-ins' names are free -/
structure Bi (mg : Str → Option Value) : Prop where
  len : mg "len" = none
  int : mg "int" = none
  bool : mg "bool" = none
  str : mg "str" = none
  list : mg "list" = none
  tuple : mg "tuple" = none
  isinstance : mg "isinstance" = none
  range : mg "range" = none
  abs : mg "abs" = none
  max : mg "max" = none
  lcm : mg "lcm" = some (.builtin "math.lcm")

section
variable {X : Cx} {e f : Expr} {te tf : TE} {ta : TA} {es : List Expr} {p pos : Pos}
/-! ### list or tuple -/
def Sq (K : PySem.W.Frag) (H : Hp) (a : Addr) (xs : List V) : Prop := SqL K H a xs ∨ SqT K H a xs
theorem Sq.ex {K : PySem.W.Frag} {H H' : Hp} {a : Addr} {xs : List V} (x : Ex H H') (h : Sq K H a xs) : Sq K H' a xs := by
  rcases h with h | h
  · exact .inl (ex_l x h)
  · exact .inr (ex_t x h)
def rIxQ (K : PySem.W.Frag) : R2 := fun x y H Q => ∃ p xs i v, x = .ref p ∧ y = .int i ∧ Sq K H p xs ∧ atI xs i = some v ∧ Q v H
theorem ix_lt : IxR X (rIxQ X.K) := by
  intro a b pins s σ H x y v u Q I rx ry h hs
  obtain ⟨p, xs, i, z, e1, e2, hq, ha, q⟩ := h
  rcases hq with hq | hq
  · exact ix_list a b pins s σ H x y v u Q I rx ry ⟨p, xs, i, z, e1, e2, hq, ha, q⟩ hs
  · exact ix_tup a b pins s σ H x y v u Q I rx ry ⟨p, xs, i, z, e1, e2, hq, ha, q⟩ hs
/-- for .. in e, e a list or a tuple -/
def iSeq (K : PySem.W.Frag) (tl : TE) : TI := fun σ H R => tl σ H fun x H1 => ∃ a xs, x = .ref a ∧ ((SqL K H1 a xs ∧ R (Itl K a) H1) ∨ (SqT K H1 a xs ∧ R (Itt K a) H1))
end
end Kf

set_option Elab.async false
set_option linter.all false
set_option maxRecDepth 100000
set_option maxHeartbeats 4000000
namespace Kf
open PySem L2 Evl

/-! ### data of any kind, as the values stand for it -/
inductive Py where
  | non | bl (b : Bool) | int (i : Int) | str (x : Str) | lst (ds : List Py) | tup (ds : List Py) | dic (a : Addr)
def Py.seq : Py → Option (List Py)
  | .lst ds => some ds
  | .tup ds => some ds
  | _ => none
mutual
def Py.dep : Py → Nat
  | .lst ds => Py.deps ds + 1
  | .tup ds => Py.deps ds + 1
  | _ => 0
def Py.deps : List Py → Nat
  | [] => 0
  | d :: ds => max d.dep (Py.deps ds)
end
mutual
inductive Rp (K : PySem.W.Frag) (H : Hp) : V → Py → Prop
  | non : Rp K H .non .non
  | bl (b : Bool) : Rp K H (.bl b) (.bl b)
  | int (i : Int) : Rp K H (.int i) (.int i)
  | str (x : Str) : Rp K H (.str x) (.str x)
  | lst {a : Addr} {xs : List V} {ds : List Py} : SqL K H a xs → RpAll K H xs ds → Rp K H (.ref a) (.lst ds)
  | tup {a : Addr} {xs : List V} {ds : List Py} : SqT K H a xs → RpAll K H xs ds → Rp K H (.ref a) (.tup ds)
  | dic {a : Addr} {kvs : List (L2.Key × V)} : H a = some (.dK kvs) → Rp K H (.ref a) (.dic a)
inductive RpAll (K : PySem.W.Frag) (H : Hp) : List V → List Py → Prop
  | nil : RpAll K H [] []
  | cons {v : V} {vs : List V} {d : Py} {ds : List Py} : Rp K H v d → RpAll K H vs ds → RpAll K H (v :: vs) (d :: ds)
end
section
variable {K : PySem.W.Frag} {H H' : Hp}
mutual
theorem Rp.ex (x : Ex H H') : ∀ (d : Py) (v : V), Rp K H v d → Rp K H' v d
  | .non, _, h => by cases h; exact .non
  | .bl _, _, h => by cases h; exact .bl _
  | .int _, _, h => by cases h; exact .int _
  | .str _, _, h => by cases h; exact .str _
  | .lst ds, _, h => by
    cases h with
    | lst hs ha => exact .lst (ex_l x hs) (RpAll.ex x ds _ ha)
  | .tup ds, _, h => by
    cases h with
    | tup hs ha => exact .tup (ex_t x hs) (RpAll.ex x ds _ ha)
  | .dic _, _, h => by
    cases h with
    | dic hd => exact .dic (x _ _ hd)
theorem RpAll.ex (x : Ex H H') : ∀ (ds : List Py) (vs : List V), RpAll K H vs ds → RpAll K H' vs ds
  | [], _, h => by cases h; exact .nil
  | d :: ds, _, h => by
    cases h with
    | cons h1 h2 => exact .cons (Rp.ex x d _ h1) (RpAll.ex x ds _ h2)
end
theorem Rp.mo {d : Py} {v : V} (h : Rp K H v d) (x : Ex H H') : Rp K H' v d := Rp.ex x d v h
theorem RpAll.mo {d : List Py} {v : List V} (h : RpAll K H v d) (x : Ex H H') : RpAll K H' v d := RpAll.ex x d v h
theorem RpAll.length : ∀ {xs : List V} {ds : List Py}, RpAll K H xs ds → xs.length = ds.length
  | _, [], h => by cases h; rfl
  | _, _ :: _, h => by
    cases h with
    | cons _ t => exact congrArg (· + 1) t.length
theorem RpAll.get : ∀ {xs : List V} {ds : List Py} {i : Nat} {d : Py}, RpAll K H xs ds → ds[i]? = some d → ∃ v, xs[i]? = some v ∧ Rp K H v d
  | _, [], _, _, h, e => by simp at e
  | _, d0 :: ds, 0, d, h, e => by
    cases h with
    | cons h1 _ =>
      have e2 : d0 = d := by simpa using e
      subst e2
      exact ⟨_, rfl, h1⟩
  | _, d0 :: ds, i + 1, d, h, e => by
    cases h with
    | cons _ t =>
      obtain ⟨v, q1, q2⟩ := t.get (i := i) (d := d) (by simpa using e)
      exact ⟨v, by simpa using q1, q2⟩
theorem RpAll.getV : ∀ {xs : List V} {ds : List Py} {i : Nat} {v : V}, RpAll K H xs ds → xs[i]? = some v → ∃ d, ds[i]? = some d ∧ Rp K H v d
  | _, [], _, _, h, e => by cases h; simp at e
  | _, d0 :: ds, 0, v, h, e => by
    cases h with
    | cons h1 _ =>
      have e2 := Option.some.inj e
      subst e2
      exact ⟨_, rfl, h1⟩
  | _, d0 :: ds, i + 1, v, h, e => by
    cases h with
    | cons _ t =>
      obtain ⟨d, q1, q2⟩ := t.getV (i := i) (v := v) (by simpa using e)
      exact ⟨d, by simpa using q1, q2⟩
theorem RpAll.app : ∀ {xs ys : List V} {ds es : List Py}, RpAll K H xs ds → RpAll K H ys es → RpAll K H (xs ++ ys) (ds ++ es)
  | _, _, [], _, h, g => by cases h; exact g
  | _, _, _ :: _, _, h, g => by
    cases h with
    | cons h1 t => exact .cons h1 (t.app g)
theorem RpAll.ints : ∀ (ns : List Int), RpAll K H (ns.map V.int) (ns.map Py.int)
  | [] => .nil
  | n :: r => .cons (.int n) (RpAll.ints r)
/-- what is a list or a tuple -/
theorem Rp.sq {v : V} {d : Py} {ds : List Py} (h : Rp K H v d) (e : d.seq = some ds) : ∃ a xs, v = .ref a ∧ Sq K H a xs ∧ RpAll K H xs ds := by
  cases h with
  | lst hs ha => cases e; exact ⟨_, _, rfl, .inl hs, ha⟩
  | tup hs ha => cases e; exact ⟨_, _, rfl, .inr hs, ha⟩
  | _ => exact nomatch e
theorem Rp.of_list {a : Addr} {xs : List V} {ds : List Py} (h : H a = some (.lst xs)) (ha : RpAll K H xs ds) : Rp K H (.ref a) (.lst ds) := .lst (sq_of h) ha
theorem Rp.of_tup {a : Addr} {xs : List V} {ds : List Py} (h : H a = some (.tup xs)) (ha : RpAll K H xs ds) : Rp K H (.ref a) (.tup ds) := .tup (st_of h) ha
end

/-! ### two values that stand for the same data are equal -/
theorem units_in {A : Around} {n m : Nat} (h : A.units + m < cLine) (hn : n + 1 ≤ m) : A.in1.units + n < cLine := by
  show A.units + 1 + n < cLine
  omega
section
variable {X : Cx} {pins : List (Addr × Obj)} {σ : L2.St} {H : Hp} {s : Shared}
theorem all_true (n : Nat) : ((List.range n).all fun _ => true) = true := List.all_eq_true.mpr fun _ _ => rfl
mutual
theorem Rp.eqAt (I : Inv X pins σ H s) : ∀ (d : Py) (x y : V) (v u : Value) (A : Around), Rp X.K H x d → Rp X.K H y d → RelV x v → RelV y u → A.units + d.dep < cLine → SeqAt.EqAt A s v u true
  | .non, _, _, _, _, _, hx, hy, rx, ry, _ => by
    cases hx; cases hy
    exact eqAt_same rx ry rfl
  | .bl _, _, _, _, _, _, hx, hy, rx, ry, _ => by
    cases hx; cases hy
    exact eqAt_same rx ry rfl
  | .int _, _, _, _, _, _, hx, hy, rx, ry, _ => by
    cases hx; cases hy
    exact eqAt_same rx ry rfl
  | .str _, _, _, _, _, _, hx, hy, rx, ry, _ => by
    cases hx; cases hy
    exact eqAt_same rx ry rfl
  | .dic a, _, _, v, u, _, hx, hy, rx, ry, _ => by
    cases hx; cases hy
    cases (show v = Value.ref a from rx)
    cases (show u = Value.ref a from ry)
    exact SeqAt.EqAt.same _
  | .lst ds, x, y, v, u, A, hx, hy, rx, ry, hu => by
    cases hx with
    | @lst a xs _ hs ha =>
      cases hy with
      | @lst b ys _ ht hb =>
        cases (show v = Value.ref a from rx)
        cases (show u = Value.ref b from ry)
        by_cases e : a = b
        · subst e; exact SeqAt.EqAt.same _
        obtain ⟨us, r1, p1, _⟩ := I.list hs
        obtain ⟨ws, r2, p2, _⟩ := I.list ht
        have hsz : us.toArray.size = ws.toArray.size := by rw [List.size_toArray, List.size_toArray, ← r1.length, ← r2.length, ha.length, hb.length]
        have k := SeqAt.RcAt.lists (A := A) (e := fun _ => true) p1.isList p2.isList hsz (by omega) fun j h1 h2 => by
          have z := RpAll.eqAt I ds xs ys us ws A.in1 ha hb r1 r2 (units_in hu (Nat.le_refl _)) j (by simpa using h1) (by simpa using h2)
          simpa using z
        rw [all_true] at k
        exact SeqAt.EqAt.of_refs e k
  | .tup ds, x, y, v, u, A, hx, hy, rx, ry, hu => by
    cases hx with
    | @tup a xs _ hs ha =>
      cases hy with
      | @tup b ys _ ht hb =>
        cases (show v = Value.ref a from rx)
        cases (show u = Value.ref b from ry)
        by_cases e : a = b
        · subst e; exact SeqAt.EqAt.same _
        obtain ⟨us, r1, p1, _⟩ := I.tuple hs
        obtain ⟨ws, r2, p2, _⟩ := I.tuple ht
        have hsz : us.toArray.size = ws.toArray.size := by rw [List.size_toArray, List.size_toArray, ← r1.length, ← r2.length, ha.length, hb.length]
        have k := SeqAt.RcAt.tuples (A := A) (e := fun _ => true) (show s.heap.IsTuple a us.toArray from p1) (show s.heap.IsTuple b ws.toArray from p2) (by omega) fun j h1 h2 => by
          have z := RpAll.eqAt I ds xs ys us ws A.in1 ha hb r1 r2 (units_in hu (Nat.le_refl _)) j (by simpa using h1) (by simpa using h2)
          simpa using z
        rw [all_true, hsz, beq_self_eq_true] at k
        exact SeqAt.EqAt.of_refs e k
theorem RpAll.eqAt (I : Inv X pins σ H s) : ∀ (ds : List Py) (xs ys : List V) (us ws : List Value) (A : Around), RpAll X.K H xs ds → RpAll X.K H ys ds → Vals xs us → Vals ys ws → A.units + Py.deps ds < cLine →
    ∀ j (h1 : j < us.length) (h2 : j < ws.length), SeqAt.EqAt A s us[j] ws[j] true
  | [], _, _, us, _, _, ha, _, r1, _, _, j, h1, _ => by
    cases ha
    cases r1
    exact absurd h1 (Nat.not_lt_zero j)
  | d :: ds, _, _, us, ws, A, ha, hb, r1, r2, hu, j, h1, h2 => by
    cases ha with
    | cons a1 a2 =>
      cases hb with
      | cons b1 b2 =>
        cases r1 with
        | cons p1 p2 =>
          cases r2 with
          | cons q1 q2 =>
            have m1 : A.units + d.dep < cLine := by
              have := Nat.le_max_left d.dep (Py.deps ds)
              have hu' : A.units + max d.dep (Py.deps ds) < cLine := hu
              omega
            have m2 : A.units + Py.deps ds < cLine := by
              have := Nat.le_max_right d.dep (Py.deps ds)
              have hu' : A.units + max d.dep (Py.deps ds) < cLine := hu
              omega
            cases j with
            | zero => exact Rp.eqAt I d _ _ _ _ A a1 b1 p1 q1 m1
            | succ j => exact RpAll.eqAt I ds _ _ _ _ A a2 b2 p2 q2 m2 j (Nat.lt_of_succ_lt_succ h1) (Nat.lt_of_succ_lt_succ h2)
end
def rEqP (K : PySem.W.Frag) : R2 := fun x y H Q => ∃ d ds, Rp K H x d ∧ Rp K H y d ∧ d.seq = some ds ∧ d.dep ≤ 60 ∧ Q (.bl true) H
def rNeP (K : PySem.W.Frag) : R2 := fun x y H Q => ∃ d ds, Rp K H x d ∧ Rp K H y d ∧ d.seq = some ds ∧ d.dep ≤ 60 ∧ Q (.bl false) H
end
section
variable {X : Cx}
theorem op_eqP (hu : X.A.units + 64 < cLine) : OpR X (compareOp .Eq) (rEqP X.K) := by
  intro pins s σ H x y v u Q I rx ry h
  obtain ⟨d, es, hx, hy, hd, hz, q⟩ := h
  cases hx with
  | @lst a xs ds hs ha =>
    cases hy with
    | @lst b ys _ ht hb =>
      cases (show v = Value.ref a from rx)
      cases (show u = Value.ref b from ry)
      obtain ⟨us, r1, p1, _⟩ := I.list hs
      obtain ⟨ws, r2, p2, _⟩ := I.list ht
      have hsz : us.toArray.size = ws.toArray.size := by rw [List.size_toArray, List.size_toArray, ← r1.length, ← r2.length, ha.length, hb.length]
      have hz' : Py.deps ds + 1 ≤ 60 := hz
      refine SeqAt.RcAt.lists (A := X.A) (e := fun _ => true) p1.isList p2.isList hsz (by omega) (fun j h1 h2 => ?_) _ _ _ _ ?_
      · have z := RpAll.eqAt I ds xs ys us ws X.A.in1 ha hb r1 r2 (units_in hu (by omega)) j (by simpa using h1) (by simpa using h2)
        simpa using z
      · rw [all_true]
        exact ⟨.bl true, H, I, rfl, q⟩
  | @tup a xs ds hs ha =>
    cases hy with
    | @tup b ys _ ht hb =>
      cases (show v = Value.ref a from rx)
      cases (show u = Value.ref b from ry)
      obtain ⟨us, r1, p1, _⟩ := I.tuple hs
      obtain ⟨ws, r2, p2, _⟩ := I.tuple ht
      have hsz : us.toArray.size = ws.toArray.size := by rw [List.size_toArray, List.size_toArray, ← r1.length, ← r2.length, ha.length, hb.length]
      have hz' : Py.deps ds + 1 ≤ 60 := hz
      refine SeqAt.RcAt.tuples (A := X.A) (e := fun _ => true) (show s.heap.IsTuple a us.toArray from p1) (show s.heap.IsTuple b ws.toArray from p2) (by omega) (fun j h1 h2 => ?_) _ _ _ _ ?_
      · have z := RpAll.eqAt I ds xs ys us ws X.A.in1 ha hb r1 r2 (units_in hu (by omega)) j (by simpa using h1) (by simpa using h2)
        simpa using z
      · rw [all_true, hsz, beq_self_eq_true]
        exact ⟨.bl true, H, I, rfl, q⟩
  | _ => exact nomatch hd
theorem op_neP (hu : X.A.units + 64 < cLine) : OpR X (compareOp .NotEq) (rNeP X.K) := by
  intro pins s σ H x y v u Q I rx ry h
  obtain ⟨d, es, hx, hy, hd, hz, q⟩ := h
  cases hx with
  | @lst a xs ds hs ha =>
    cases hy with
    | @lst b ys _ ht hb =>
      cases (show v = Value.ref a from rx)
      cases (show u = Value.ref b from ry)
      obtain ⟨us, r1, p1, _⟩ := I.list hs
      obtain ⟨ws, r2, p2, _⟩ := I.list ht
      have hsz : us.toArray.size = ws.toArray.size := by rw [List.size_toArray, List.size_toArray, ← r1.length, ← r2.length, ha.length, hb.length]
      have hz' : Py.deps ds + 1 ≤ 60 := hz
      refine SeqAt.RcNeAt.lists (A := X.A) (e := fun _ => true) p1.isList p2.isList hsz (by omega) (fun j h1 h2 => ?_) _ _ _ _ ?_
      · have z := RpAll.eqAt I ds xs ys us ws X.A.in1 ha hb r1 r2 (units_in hu (by omega)) j (by simpa using h1) (by simpa using h2)
        simpa using z
      · rw [all_true]
        exact ⟨.bl false, H, I, rfl, q⟩
  | @tup a xs ds hs ha =>
    cases hy with
    | @tup b ys _ ht hb =>
      cases (show v = Value.ref a from rx)
      cases (show u = Value.ref b from ry)
      obtain ⟨us, r1, p1, _⟩ := I.tuple hs
      obtain ⟨ws, r2, p2, _⟩ := I.tuple ht
      have hsz : us.toArray.size = ws.toArray.size := by rw [List.size_toArray, List.size_toArray, ← r1.length, ← r2.length, ha.length, hb.length]
      have hz' : Py.deps ds + 1 ≤ 60 := hz
      refine SeqAt.RcNeAt.tuples (A := X.A) (e := fun _ => true) (show s.heap.IsTuple a us.toArray from p1) (show s.heap.IsTuple b ws.toArray from p2) (by omega) (fun j h1 h2 => ?_) _ _ _ _ ?_
      · have z := RpAll.eqAt I ds xs ys us ws X.A.in1 ha hb r1 r2 (units_in hu (by omega)) j (by simpa using h1) (by simpa using h2)
        simpa using z
      · rw [all_true, hsz, beq_self_eq_true]
        exact ⟨.bl false, H, I, rfl, q⟩
  | _ => exact nomatch hd

/-! ### isinstance of data -/
def Py.kind : Py → String
  | .non => "NoneType" | .bl _ => "bool" | .int _ => "int" | .str _ => "str" | .lst _ => "list" | .tup _ => "tuple" | .dic _ => "dict"
theorem tyx_list {K : PySem.W.Frag} {H : Hp} {a : Addr} {xs : List V} (h : SqL K H a xs) : TyX K H (.ref a) (.type "list") := by
  rcases h with (h | ⟨o, h⟩) | ⟨o, its, n, h1, h2, _⟩
  · exact .base (.lst h)
  · exact .base (.frz h)
  · exact .kList h1 h2
theorem tyx_tup {K : PySem.W.Frag} {H : Hp} {a : Addr} {xs : List V} (h : SqT K H a xs) : TyX K H (.ref a) (.type "tuple") := by
  rcases h with (h | ⟨o, h⟩) | ⟨o, its, n, h1, h2, _⟩
  · exact .base (.tup h)
  · exact .fTuple h
  · exact .kTuple h1 h2
theorem Rp.ty {K : PySem.W.Frag} {H : Hp} {v : V} {d : Py} (h : Rp K H v d) : TyX K H v (.type d.kind) := by
  cases h with
  | non => exact .base .non
  | bl b => exact .base (.bl b)
  | int i => exact .base (.int i)
  | str x => exact .base (.str x)
  | lst hs _ => exact tyx_list hs
  | tup hs _ => exact tyx_tup hs
  | dic hd => exact .base (.dK hd)
end
end Kf

set_option Elab.async false
set_option linter.all false
set_option maxRecDepth 100000
set_option maxHeartbeats 4000000
namespace Kf
open PySem L2 Evl

/-! ### what is told of a value and the heap behind it -/
abbrev Pr := V → Hp → Prop
def EvP (te : TE) (σ : L2.St) (H : Hp) (P : Pr) : Prop := ∀ H1, Ex H H1 → ∀ Q : VK, (∀ v H2, Ex H1 H2 → P v H2 → Q v H2) → te σ H1 Q
def SpP (sp : Sp) (vs : List V) (H : Hp) (P : Pr) : Prop := ∀ H1, Ex H H1 → ∀ Q : VK, (∀ v H2, Ex H1 H2 → P v H2 → Q v H2) → ∀ E : XK, sp vs H1 Q E
def IsL (xs : List V) : Pr := fun v H => ∃ p, v = .ref p ∧ H p = some (.lst xs)
def IsU (xs : List V) : Pr := fun v H => ∃ p, v = .ref p ∧ H p = some (.tup xs)
section
variable {K : PySem.W.Frag} {σ : L2.St} {H H' : Hp} {ta tb te tx : TE} {t u : TT} {x y z v : V} {r : R2} {P P' : Pr}
theorem EvP.mono (e : Ex H H') (h : EvP te σ H P) : EvP te σ H' P := fun H1 a Q q => h H1 (e.trans a) Q q
theorem EvP.imp (h : EvP te σ H P) (k : ∀ v H1, Ex H H1 → P v H1 → P' v H1) : EvP te σ H P' := fun H1 a Q q => h H1 a Q fun v H2 a2 p => q v H2 a2 (k v H2 (a.trans a2) p)
theorem evp_ev (h : Ev te σ H v) (k : ∀ H1, Ex H H1 → P v H1) : EvP te σ H P := fun H1 a Q q => h H1 a Q fun H2 a2 => q v H2 a2 (k H2 (a.trans a2))
theorem ev_evp (h : EvP te σ H fun w _ => w = v) : Ev te σ H v := fun H1 a Q q => h H1 a Q fun w H2 a2 e => by
  subst e
  exact q H2 a2
theorem evp_L {xs : List V} (h : EvL te σ H xs) (k : ∀ p H1, Ex H H1 → H1 p = some (.lst xs) → P (.ref p) H1) : EvP te σ H P := fun H1 a Q q => h H1 a Q fun p H2 _ a2 e => q _ H2 a2 (k p H2 (a.trans a2) e)
theorem evp_U {xs : List V} (h : EvU te σ H xs) (k : ∀ p H1, Ex H H1 → H1 p = some (.tup xs) → P (.ref p) H1) : EvP te σ H P := fun H1 a Q q => h H1 a Q fun p H2 _ a2 e => q _ H2 a2 (k p H2 (a.trans a2) e)
/-- arguments that are made on the way -/
def EvAP (ta : TA) (σ : L2.St) (H : Hp) (P : List V → Hp → Prop) : Prop := ∀ H1, Ex H H1 → ∀ Q : List V → Hp → Prop, (∀ vs H2, Ex H1 H2 → P vs H2 → Q vs H2) → ta σ H1 Q
theorem eap_nil : EvAP tNil σ H fun vs _ => vs = [] := fun H1 _ Q q => q [] H1 (Ex.refl H1) rfl
theorem eap_of {vs : List V} (h : EvA tx2 σ H vs) : EvAP tx2 σ H fun ws _ => ws = vs := fun H1 a Q q => h H1 a Q fun H2 a2 => q vs H2 a2 rfl
theorem eap_cons {tr : TA} {R : List V → Hp → Prop} (h : EvP ta σ H P) (hr : ∀ v H1, Ex H H1 → P v H1 → EvAP tr σ H1 fun vs H2 => R (v :: vs) H2) : EvAP (tCons ta tr) σ H R := fun H1 a Q q =>
  h H1 a _ fun v H2 a2 p => hr v H2 (a.trans a2) p H2 (Ex.refl H2) _ fun vs H3 a3 r => q _ H3 (a2.trans a3) r
theorem evp_call {sp : Sp} {vs : List V} {E : XK} {ta : TA} (h : EvA ta σ H vs) (hs : SpP sp vs H P) : EvP (tCall sp [] E ta) σ H P := fun H1 a Q q =>
  h H1 a _ fun H2 a2 => by
    have k := hs H2 (a.trans a2) Q (fun v H3 a3 p => q v H3 (a2.trans a3) p) E
    show sp (vs ++ []) H2 Q E
    rw [List.append_nil]
    exact k
theorem evp_callP {sp : Sp} {E : XK} {ta : TA} {R : List V → Hp → Prop} (h : EvAP ta σ H R) (hs : ∀ vs H1, Ex H H1 → R vs H1 → SpP sp vs H1 P) : EvP (tCall sp [] E ta) σ H P := fun H1 a Q q =>
  h H1 a _ fun vs H2 a2 r => by
    have k := hs vs H2 (a.trans a2) r H2 (Ex.refl H2) Q (fun v H3 a3 p => q v H3 (a2.trans a3) p) E
    show sp (vs ++ []) H2 Q E
    rw [List.append_nil]
    exact k
theorem ev_callV {sp : Sp} {vs : List V} {E : XK} {ta : TA} (h : EvA ta σ H vs) (hs : SpV sp vs H z) : Ev (tCall sp [] E ta) σ H z := ev_call (dvs := []) h (by rw [List.append_nil]; exact hs)
theorem evp_op {P1 P2 : Pr} (ha : EvP ta σ H P1) (hb : ∀ v H1, Ex H H1 → P1 v H1 → EvP tb σ H1 P2) (hr : ∀ v w H1, Ex H H1 → P2 w H1 → (∃ H0, Ex H H0 ∧ Ex H0 H1 ∧ P1 v H0) → ∀ Q : VK, (∀ z H2, Ex H1 H2 → P z H2 → Q z H2) → r v w H1 Q) : EvP (tOp r ta tb) σ H P := fun H1 a Q q =>
  ha H1 a _ fun v H2 a2 p => hb v H2 (a.trans a2) p H2 (Ex.refl H2) _ fun w H3 a3 p3 => hr v w H3 ((a.trans a2).trans a3) p3 ⟨H2, a.trans a2, a3, p⟩ Q fun z H4 a4 pz => q z H4 ((a2.trans a3).trans a4) pz

/-! ### statements -/
variable {D : Ends} {tu tw tz : TS} {g : TG}
theorem s_asgP {i : Nat} (h : EvP te σ H P) (k : ∀ v H1, Ex H H1 → P v H1 → D.nx (σ.set i (some v)) H1) : tAsg te (gName i) D σ H := h H (Ex.refl H) _ k
theorem q_asgP {i : Nat} (h : EvP te σ H P) (k : ∀ v H1, Ex H H1 → P v H1 → tz D (σ.set i (some v)) H1) : tSeq (tAsg te (gName i)) tz D σ H := s_asgP (D := { D with nx := tz D }) h k
theorem s_retP (h : EvP te σ H P) (k : ∀ v H1, Ex H H1 → P v H1 → D.rt v H1) : tRet te D σ H := h H (Ex.refl H) _ k
theorem s_dropP (h : EvP te σ H P) (k : ∀ v H1, Ex H H1 → P v H1 → D.nx σ H1) : tDrop te D σ H := h H (Ex.refl H) _ k
theorem q_dropP (h : EvP te σ H P) (k : ∀ v H1, Ex H H1 → P v H1 → tz D σ H1) : tSeq (tDrop te) tz D σ H := s_dropP (D := { D with nx := tz D }) h k
/-- a, b = e -/
theorem q_asg2 {i j : Nat} (h : EvP te σ H fun v H1 => ∃ a x y, v = .ref a ∧ SqT K H1 a [x, y] ∧ P x H1 ∧ P' y H1) (k : ∀ x y H1, Ex H H1 → P x H1 → P' y H1 → tz D ((σ.set i (some x)).set j (some y)) H1) :
    tSeq (tAsg te (gTup K 2 (gCons (gName i) (gCons (gName j) gNil)))) tz D σ H := h H (Ex.refl H) _ fun v H1 a p => by
  obtain ⟨q, x, y, rfl, hq, p1, p2⟩ := p
  exact ⟨q, [x, y], rfl, hq, rfl, x, [y], rfl, y, [], rfl, rfl, k x y H1 a p1 p2⟩
/-- xs.append(e) -/
theorem s_appP {l : Addr} {xs : List V} (hl : H l = some (.lst xs)) (ha : Ev ta σ H (.ref l)) (h : EvP te σ H P) (hz : xs.length < 100000) (k : ∀ v H1, Ex H H1 → P v H1 → D.nx σ (upd H1 l (.lst (xs ++ [v])))) :
    tDrop (tBM K "list" rAppend ta (tCons te tNil)) D σ H := ha H (Ex.refl H) _ fun H1 e1 =>
  ⟨Or.inl ⟨rfl, xs, sq_of (e1 l _ hl)⟩, h H1 e1 _ fun v H2 e2 p => ⟨l, xs, v, rfl, rfl, e2 l _ (e1 l _ hl), sz_lt hz, k v H2 (e1.trans e2) p⟩⟩
theorem q_appP {l : Addr} {xs : List V} (hl : H l = some (.lst xs)) (ha : Ev ta σ H (.ref l)) (h : EvP te σ H P) (hz : xs.length < 100000) (k : ∀ v H1, Ex H H1 → P v H1 → tz D σ (upd H1 l (.lst (xs ++ [v])))) :
    tSeq (tDrop (tBM K "list" rAppend ta (tCons te tNil))) tz D σ H := s_appP (D := { D with nx := tz D }) hl ha h hz k
theorem q_iff {b : Bool} (h : EvT t σ H b) (h1 : b = true → ∀ H1, Ex H H1 → tu { D with nx := tz D } σ H1) (h2 : b = false → ∀ H1, Ex H H1 → tw { D with nx := tz D } σ H1) : tSeq (tIfS t tu tw) tz D σ H := q_if h h1 h2

/-! ### a for over a list or a tuple -/
theorem s_forS {a : Addr} {xs : List V} {tl : TE} (h : Ev tl σ H (.ref a)) (hx : Sq K H a xs) (Pv : Nat → L2.St → Hp → Prop) (h0 : ∀ H1, Ex H H1 → Pv 0 σ H1) (hl : ∀ i σ' H', i ≤ xs.length → Pv i σ' H' → Ex H H')
    (hs : ∀ i x σ' H', xs[i]? = some x → Pv i σ' H' → g x σ' H' fun σ2 H2 => tu { D with nx := Pv (i + 1), ct := Pv (i + 1), bk := D.nx } σ2 H2) (hd : ∀ σ' H', Pv xs.length σ' H' → D.nx σ' H') : tFor (iSeq K tl) g tu D σ H :=
  h H (Ex.refl H) _ fun H1 e => by
    rcases hx with hx | hx
    · exact ⟨a, xs, rfl, .inl ⟨ex_l e hx, for_list Pv (h0 H1 e) (fun i σ' H' hi p => ex_l (hl i σ' H' hi p) hx) hs hd⟩⟩
    · exact ⟨a, xs, rfl, .inr ⟨ex_t e hx, for_tup Pv (h0 H1 e) (fun i σ' H' hi p => ex_t (hl i σ' H' hi p) hx) hs hd⟩⟩
theorem q_forS {a : Addr} {xs : List V} {tl : TE} (h : Ev tl σ H (.ref a)) (hx : Sq K H a xs) (Pv : Nat → L2.St → Hp → Prop) (h0 : ∀ H1, Ex H H1 → Pv 0 σ H1) (hl : ∀ i σ' H', i ≤ xs.length → Pv i σ' H' → Ex H H')
    (hs : ∀ i x σ' H', xs[i]? = some x → Pv i σ' H' → g x σ' H' fun σ2 H2 => tu { D with nx := Pv (i + 1), ct := Pv (i + 1), bk := tz D } σ2 H2) (hd : ∀ σ' H', Pv xs.length σ' H' → tz D σ' H') : tSeq (tFor (iSeq K tl) g tu) tz D σ H :=
  s_forS (D := { D with nx := tz D }) h hx Pv h0 hl hs hd

/-! ### values of some operations -/
theorem rv_ixQ {p : Addr} {xs : List V} {i : Int} (h : Sq K H p xs) (ha : atI xs i = some v) : RV (rIxQ K) (.ref p) (.int i) H v := fun H1 e _ q => ⟨p, xs, i, v, rfl, rfl, h.ex e, ha, q H1 (Ex.refl H1)⟩
theorem ev_mul {i j : Int} (ha : Ev ta σ H (.int i)) (hb : Ev tb σ H (.int j)) (h : CMul i j) : Ev (tOp (rI CMul fun i j => .int (i * j)) ta tb) σ H (.int (i * j)) := ev_op ha hb (rv_I h)
theorem ev_mod {i j : Int} (ha : Ev ta σ H (.int i)) (hb : Ev tb σ H (.int j)) (h : 0 < j) : Ev (tOp (rI (fun _ j => 0 < j) fun i j => .int (i % j)) ta tb) σ H (.int (i % j)) := ev_op ha hb (rv_I h)
theorem ev_fdiv {i j : Int} (ha : Ev ta σ H (.int i)) (hb : Ev tb σ H (.int j)) (h : CDiv i j) : Ev (tOp (rI CDiv fun i j => .int (i / j)) ta tb) σ H (.int (i / j)) := ev_op ha hb (rv_I h)
theorem ev_pow {i j : Int} (ha : Ev ta σ H (.int i)) (hb : Ev tb σ H (.int j)) (h : CPow i j) : Ev (tOp (rI CPow fun i j => .int (i ^ j.toNat)) ta tb) σ H (.int (i ^ j.toNat)) := ev_op ha hb (rv_I h)
def rInt1 : List V → Hp → VK → Prop := fun xs H Q => (∃ i, xs = [.int i] ∧ Q (.int i) H) ∨ ∃ k, xs = [.bl k] ∧ Q (.int (if k then 1 else 0)) H
theorem ev_int {i : Int} (ha : Ev ta σ H (.int i)) : Ev (tCB rInt1 (tCons ta tNil)) σ H (.int i) := fun H1 e Q q => ha H1 e _ fun H2 e2 => Or.inl ⟨i, rfl, q H2 e2⟩
def rAbs1 : List V → Hp → VK → Prop := fun xs H Q => ∃ i, xs = [.int i] ∧ Q (.int (if i < 0 then -i else i)) H
theorem ev_abs {i : Int} (ha : Ev ta σ H (.int i)) : Ev (tCB rAbs1 (tCons ta tNil)) σ H (.int (if i < 0 then -i else i)) := fun H1 e Q q => ha H1 e _ fun H2 e2 => ⟨i, rfl, q H2 e2⟩
theorem ev_lenQ {p : Addr} {xs : List V} (ha : Ev ta σ H (.ref p)) (h : Sq K H p xs) : Ev (tCB (rLenS K) (tCons ta tNil)) σ H (.int (xs.length : Int)) := fun H1 e Q q =>
  ha H1 e _ fun H2 e2 => ⟨p, xs, rfl, h.ex (e.trans e2), q H2 e2⟩
theorem el_listQ {p : Addr} {xs : List V} (ha : Ev ta σ H (.ref p)) (h : Sq K H p xs) : EvL (tCB (rListS K) (tCons ta tNil)) σ H xs := fun H1 e Q q =>
  ha H1 e _ fun H2 e2 => ⟨p, xs, rfl, h.ex (e.trans e2), fun l hl => q l _ (fresh_back e2 hl) (e2.trans (Ex.new hl)) upd_same⟩
/-- isinstance -/
theorem kit1 {a : String} {c : String} {b : Bool} (h : kitB a c = some b) : PySem.W.kitOne K (.type a) (.type c) = some b := kit_ty h
def isT (d : Py) (c : String) : Bool := (kitB d.kind c).getD false
theorem isT_int (d : Py) : kitB d.kind "int" = some (match d with | .int _ => true | .bl _ => true | _ => false) := by cases d <;> (dsimp only [Py.kind]; decide +kernel)
theorem isT_bool (d : Py) : kitB d.kind "bool" = some (match d with | .bl _ => true | _ => false) := by cases d <;> (dsimp only [Py.kind]; decide +kernel)
theorem isT_str (d : Py) : kitB d.kind "str" = some (match d with | .str _ => true | _ => false) := by cases d <;> (dsimp only [Py.kind]; decide +kernel)
def isT_strB : Py → Bool
  | .str _ => true
  | _ => false
theorem isT_str' (d : Py) : kitB d.kind "str" = some (isT_strB d) := by cases d <;> (dsimp only [Py.kind, isT_strB]; decide +kernel)
theorem isT_list (d : Py) : kitB d.kind "list" = some (match d with | .lst _ => true | _ => false) := by cases d <;> (dsimp only [Py.kind]; decide +kernel)
theorem isT_tuple (d : Py) : kitB d.kind "tuple" = some (match d with | .tup _ => true | _ => false) := by cases d <;> (dsimp only [Py.kind]; decide +kernel)
theorem ev_isi {d : Py} {c : String} {b : Bool} (ha : Ev ta σ H x) (hd : Rp K H x d) (hk : kitB d.kind c = some b) : Ev (tCB (rIsi K) (tCons ta (tCons (tC (.ty c)) tNil))) σ H (.bl b) := fun H1 e Q q =>
  ha H1 e _ fun H2 e2 => ⟨x, .ty c, .type d.kind, .type c, b, rfl, .ty c, (hd.mo (e.trans e2)).ty, kit_ty hk, q H2 e2⟩
/-- isinstance(x, (list, tuple)) -/
theorem ev_isi2 {d : Py} (ha : Ev ta σ H x) (hd : Rp K H x d) : Ev (tCB (rIsiT K) (tCons ta (tCons (tTup (tCons (tC (.ty "list")) (tCons (tC (.ty "tuple")) tNil))) tNil))) σ H (.bl d.seq.isSome) := fun H1 e Q q =>
  ha H1 e _ fun H2 e2 => ⟨(by show 2 ≤ sizeLine; decide), fun p hp => by
    refine ⟨x, p, [.ty "list", .ty "tuple"], .type d.kind, [.type "list", .type "tuple"], d.seq.isSome, rfl, upd_same, .cons (.ty _) (.cons (.ty _) .nil), (hd.mo ((e.trans e2).trans (Ex.new hp))).ty, ?_, q _ (e2.trans (Ex.new hp))⟩
    refine kitAny_cons (kit_ty (isT_list d)) (fun hb => kitAny_cons (kit_ty (isT_tuple d)) (fun hb2 => ?_) (fun hb2 => ?_)) (fun hb => ?_)
    · cases d <;> first | rfl | exact nomatch (show true = false from hb) | exact nomatch (show true = false from hb2)
    · cases d <;> first | rfl | exact nomatch (show false = true from hb2)
    · cases d <;> first | rfl | exact nomatch (show false = true from hb)⟩
theorem ev_chain {i j k : Int} {p q : Int → Int → Bool} {tc : TE} (ha : Ev ta σ H (.int i)) (hb : Ev tb σ H (.int j)) (hc : Ev tc σ H (.int k)) :
    Ev (tChain (rI0 fun i j => .bl (p i j)) (rI0 fun i j => .bl (q i j)) ta tb tc) σ H (.bl (p i j && q j k)) := fun H1 e Q f =>
  ha H1 e _ fun H2 e2 => hb H2 (e.trans e2) _ fun H3 e3 => ⟨i, j, rfl, rfl, p i j, rfl, by
    cases hp : p i j with
    | true =>
      show tc σ H3 _
      refine hc H3 ((e.trans e2).trans e3) _ fun H4 e4 => ⟨j, k, rfl, rfl, ?_⟩
      have g := f H4 ((e2.trans e3).trans e4)
      rw [hp] at g
      exact g
    | false =>
      show Q (.bl false) H3
      have g := f H3 (e2.trans e3)
      rw [hp] at g
      exact g⟩
theorem q_par3 {i j l : Nat} {ta : TA} {x y z : V} (h : EvA ta σ H [x, y, z]) (k : ∀ H1, Ex H H1 → tz D (((σ.set i (some x)).set j (some y)).set l (some z)) H1) : tSeq (tPar3 i j l ta) tz D σ H :=
  h H (Ex.refl H) _ fun H1 e => ⟨x, y, z, rfl, k H1 e⟩
/-- s.pop() of a list of one's own, the value told -/
theorem atI_zero (x : V) (xs : List V) : atI (x :: xs) 0 = some x := atI_nat (j := 0) rfl
theorem atI_getD {l : List V} {i : Int} {d : V} (h0 : 0 ≤ i) (h : i < l.length) : atI l i = some (l.getD i.toNat d) := by
  obtain ⟨n, rfl⟩ : ∃ n : Nat, i = n := ⟨i.toNat, by omega⟩
  refine atI_nat ?_
  rw [Int.toNat_natCast, List.getD_eq_getElem?_getD, List.getElem?_eq_getElem (by omega)] <;> rfl
theorem atI_ints {l : List Int} {i : Int} (h0 : 0 ≤ i) (h : i < l.length) : atI (l.map V.int) i = some (.int (l.getD i.toNat 0)) := by
  obtain ⟨n, rfl⟩ : ∃ n : Nat, i = n := ⟨i.toNat, by omega⟩
  refine atI_nat ?_
  rw [List.getElem?_map, Int.toNat_natCast, List.getD_eq_getElem?_getD, List.getElem?_eq_getElem (by omega)] <;> rfl
end
section
variable {X : Cx} {tg l : Expr} {tl : TE}
theorem pi_lt (hl : PE X l tl) : PI X tg l (iSeq X.K tl) := by
  refine ⟨fun pins s σ H R I h => thn (hl.run pins s σ H _ I h) fun v s1 ⟨x, H1, I1, r1, q1⟩ => ?_⟩
  obtain ⟨a, xs, rfl, q⟩ := q1
  cases r1
  have fr : ∀ b ∈ [s1.heap.objs.size], FpOk X pins H1 b := fun b hb => by
    have e : b = s1.heap.objs.size := by simpa using hb
    rw [e]
    exact I1.fpOk (Nat.le_refl _) (I1.hok.fresh (Nat.le_refl _))
  rcases q with ⟨hq, q⟩ | ⟨hq, q⟩
  · obtain ⟨its, rv, p, hz⟩ := I1.list hq
    exact wpAny_pyIter_list p.isList ⟨s1.heap.objs.size, [s1.heap.objs.size], _, _, H1, rfl, I1.kept (t' := s1.toks) fun b o e => Heap.get?_push_of_some _ e, turn_list a _, ⟨_, Heap.get?_push_size _ rfl, rfl, rfl⟩, fr, q⟩
  · obtain ⟨its, rv, p, hz⟩ := I1.tuple hq
    exact wpAny_pyIter_tuple (show s1.heap.IsTuple a its.toArray from p) ⟨s1.heap.objs.size, [s1.heap.objs.size], _, _, H1, rfl, I1.kept (t' := s1.toks) fun b o e => Heap.get?_push_of_some _ e, turn_tuple a _, ⟨_, Heap.get?_push_size _ rfl, rfl, rfl⟩, fr, q⟩
end
end Kf

set_option Elab.async false
set_option linter.all false
set_option maxRecDepth 100000
set_option maxHeartbeats 4000000
namespace Kf
open PySem L2 Evl

/-! ### what the checks tell of data -/
def isWhole : Py → Bool
  | .int _ => true
  | _ => false
def boundedB (d : Py) (lo hi : Int) : Bool := match d with
  | .int i => decide (lo ≤ i) && decide (i ≤ hi)
  | _ => false
def factorsB : List Py → Bool
  | [] => true
  | d :: ds => boundedB d (-99) 99 && factorsB ds
def modB (r m : Py) : Bool := match m with
  | .int i => boundedB (.int i) 1 12 && boundedB r 0 (i - 1)
  | _ => false
def rightIs (fs r m : Py) : Bool := match fs.seq with
  | some l => if l.length = 3 then factorsB l && modB r m else false
  | none => false
def arity (w : Str) : Option Nat := if w = "is" then some 4 else if w = "not" then some 2 else if w = "and" then some 3 else if w = "or" then some 3 else none
def rightB : List Py → Bool
  | .str w :: r => if arity w = some (r.length + 1) then (if w = "is" then (match r with
    | [a, b, c] => rightIs a b c
    | _ => false) else true) else false
  | _ => false
def shapeB (d : Py) (n : Nat) : Bool := match d.seq with
  | some ds => decide (n < 8) && rightB ds
  | none => false

/-! ### claims that are right -/
inductive Cl where
  | is (f g h r m : Int) | not (c : Cl) | and (a b : Cl) | or (a b : Cl)
def Cl.depth : Cl → Nat
  | .is .. => 1
  | .not c => c.depth + 1
  | .and a b => max a.depth b.depth + 1
  | .or a b => max a.depth b.depth + 1
structure LeafOk (f g h r m : Int) : Prop where
  f0 : -99 ≤ f ∧ f ≤ 99
  g0 : -99 ≤ g ∧ g ≤ 99
  h0 : -99 ≤ h ∧ h ≤ 99
  m0 : 1 ≤ m ∧ m ≤ 12
  r0 : 0 ≤ r ∧ r ≤ m - 1
def Cl.Ok : Cl → Prop
  | .is f g h r m => LeafOk f g h r m
  | .not c => c.Ok
  | .and a b => a.Ok ∧ b.Ok
  | .or a b => a.Ok ∧ b.Ok
/-- the data are this claim -/
def IsCl : Cl → Py → Prop
  | .is f g h r m, d => ∃ e, d.seq = some [.str "is", e, .int r, .int m] ∧ e.seq = some [.int f, .int g, .int h]
  | .not c, d => ∃ e, d.seq = some [.str "not", e] ∧ IsCl c e
  | .and a b, d => ∃ e f, d.seq = some [.str "and", e, f] ∧ IsCl a e ∧ IsCl b f
  | .or a b, d => ∃ e f, d.seq = some [.str "or", e, f] ∧ IsCl a e ∧ IsCl b f
theorem Cl.pos : ∀ c : Cl, 1 ≤ c.depth
  | .is .. => Nat.le_refl 1
  | .not c => Nat.succ_le_succ (Nat.zero_le _)
  | .and a b => Nat.succ_le_succ (Nat.zero_le _)
  | .or a b => Nat.succ_le_succ (Nat.zero_le _)
theorem rightIs_leaf {e : Py} {f g h r m : Int} (ok : LeafOk f g h r m) (he : e.seq = some [.int f, .int g, .int h]) : rightIs e (.int r) (.int m) = true := by
  obtain ⟨⟨a1, a2⟩, ⟨b1, b2⟩, ⟨c1, c2⟩, ⟨d1, d2⟩, e1, e2⟩ := ok
  unfold rightIs
  rw [he]
  show (if ([Py.int f, .int g, .int h] : List Py).length = 3 then factorsB [Py.int f, .int g, .int h] && modB (.int r) (.int m) else false) = true
  refine (if_pos (show ([Py.int f, .int g, .int h] : List Py).length = 3 from rfl)).trans ?_
  simp only [factorsB, modB, boundedB, a1, a2, b1, b2, c1, c2, d1, d2, e1, e2, decide_true, Bool.and_self]
theorem arity_is : arity "is" = some 4 := by decide +kernel
theorem arity_not : arity "not" = some 2 := by decide +kernel
theorem arity_and : arity "and" = some 3 := by decide +kernel
theorem arity_or : arity "or" = some 3 := by decide +kernel
theorem rightB_other {w : Str} {r : List Py} (h : arity w = some (r.length + 1)) (hw : w ≠ "is") : rightB (.str w :: r) = true := by
  exact (if_pos (c := arity w = some (r.length + 1)) h).trans (if_neg hw)
theorem shape_cl : ∀ {c : Cl} {d : Py} {n : Nat}, c.Ok → IsCl c d → n < 8 → shapeB d n = true
  | .is f g h r m, d, n, ok, hc, hn => by
    obtain ⟨e, h1, h2⟩ := hc
    have k : rightB [.str "is", e, .int r, .int m] = rightIs e (.int r) (.int m) := by
      show (if arity "is" = some (([e, .int r, .int m] : List Py).length + 1) then (if ("is" : Str) = "is" then rightIs e (.int r) (.int m) else true) else false) = rightIs e (.int r) (.int m)
      rw [if_pos (show arity "is" = some (([e, .int r, .int m] : List Py).length + 1) from arity_is), if_pos rfl]
    unfold shapeB
    rw [h1]
    show (decide (n < 8) && rightB [.str "is", e, .int r, .int m]) = true
    rw [k, rightIs_leaf ok h2, decide_eq_true hn] <;> rfl
  | .not c, d, n, ok, hc, hn => by
    obtain ⟨e, h1, h2⟩ := hc
    unfold shapeB
    rw [h1]
    show (decide (n < 8) && rightB [.str "not", e]) = true
    rw [rightB_other arity_not (by decide +kernel), decide_eq_true hn] <;> rfl
  | .and a b, d, n, ok, hc, hn => by
    obtain ⟨e, f, h1, h2⟩ := hc
    unfold shapeB
    rw [h1]
    show (decide (n < 8) && rightB [.str "and", e, f]) = true
    rw [rightB_other arity_and (by decide +kernel), decide_eq_true hn] <;> rfl
  | .or a b, d, n, ok, hc, hn => by
    obtain ⟨e, f, h1, h2⟩ := hc
    unfold shapeB
    rw [h1]
    show (decide (n < 8) && rightB [.str "or", e, f]) = true
    rw [rightB_other arity_or (by decide +kernel), decide_eq_true hn] <;> rfl
/-- the claims in a claim -/
def Cl.kids : Cl → List Cl
  | .is .. => []
  | .not c => [c]
  | .and a b => [a, b]
  | .or a b => [a, b]
def Cl.word : Cl → Str
  | .is .. => "is"
  | .not _ => "not"
  | .and .. => "and"
  | .or .. => "or"
theorem Cl.word_is {c : Cl} (h : c.kids ≠ []) : c.word ≠ "is" := by
  cases c with
  | is => exact absurd rfl h
  | not => show ("not" : Str) ≠ "is"; decide +kernel
  | and => show ("and" : Str) ≠ "is"; decide +kernel
  | or => show ("or" : Str) ≠ "is"; decide +kernel
theorem Cl.kid_ok {c k : Cl} (h : k ∈ c.kids) (ok : c.Ok) : k.Ok ∧ k.depth + 1 ≤ c.depth := by
  cases c with
  | is => simp [Cl.kids] at h
  | not c =>
    have e : k = c := by simpa [Cl.kids] using h
    subst e
    exact ⟨ok, Nat.le_refl _⟩
  | and a b =>
    have e : k = a ∨ k = b := by simpa [Cl.kids] using h
    rcases e with rfl | rfl
    · exact ⟨ok.1, Nat.succ_le_succ (Nat.le_max_left _ _)⟩
    · exact ⟨ok.2, Nat.succ_le_succ (Nat.le_max_right _ _)⟩
  | or a b =>
    have e : k = a ∨ k = b := by simpa [Cl.kids] using h
    rcases e with rfl | rfl
    · exact ⟨ok.1, Nat.succ_le_succ (Nat.le_max_left _ _)⟩
    · exact ⟨ok.2, Nat.succ_le_succ (Nat.le_max_right _ _)⟩
def Kids (K : PySem.W.Frag) (H : Hp) (xs : List V) (cs : List Cl) : Prop := xs.length = cs.length ∧ ∀ (i : Nat) x, xs[i]? = some x → ∃ c d, cs[i]? = some c ∧ Rp K H x d ∧ IsCl c d
theorem Kids.mo {K : PySem.W.Frag} {H H' : Hp} {xs : List V} {cs : List Cl} (h : Kids K H xs cs) (e : Ex H H') : Kids K H' xs cs := ⟨h.1, fun i x q => by
  obtain ⟨c, d, a, b, k⟩ := h.2 i x q
  exact ⟨c, d, a, b.mo e, k⟩⟩
theorem kids_of {K : PySem.W.Frag} {H : Hp} {v : V} {d : Py} {c : Cl} (hd : Rp K H v d) (hc : IsCl c d) (hn : c.kids ≠ []) : ∃ a xs, v = .ref a ∧ Sq K H a (.str c.word :: xs) ∧ Kids K H xs c.kids := by
  cases c with
  | is => exact absurd rfl hn
  | not c =>
    obtain ⟨e, h1, h2⟩ := hc
    obtain ⟨a, xs, rfl, hq, ha⟩ := hd.sq h1
    cases ha with
    | cons p1 r1 => cases p1; cases r1 with
      | cons p2 r2 => cases r2; exact ⟨a, _, rfl, hq, rfl, fun i x q => by
          match i, q with
          | 0, q => cases (Option.some.inj q); exact ⟨c, e, rfl, p2, h2⟩⟩
  | and c1 c2 =>
    obtain ⟨e, f, h1, h2, h3⟩ := hc
    obtain ⟨a, xs, rfl, hq, ha⟩ := hd.sq h1
    cases ha with
    | cons p1 r1 => cases p1; cases r1 with
      | cons p2 r2 => cases r2 with
        | cons p3 r3 => cases r3; exact ⟨a, _, rfl, hq, rfl, fun i x q => by
            match i, q with
            | 0, q => cases (Option.some.inj q); exact ⟨c1, e, rfl, p2, h2⟩
            | 1, q => cases (Option.some.inj q); exact ⟨c2, f, rfl, p3, h3⟩⟩
  | or c1 c2 =>
    obtain ⟨e, f, h1, h2, h3⟩ := hc
    obtain ⟨a, xs, rfl, hq, ha⟩ := hd.sq h1
    cases ha with
    | cons p1 r1 => cases p1; cases r1 with
      | cons p2 r2 => cases r2 with
        | cons p3 r3 => cases r3; exact ⟨a, _, rfl, hq, rfl, fun i x q => by
            match i, q with
            | 0, q => cases (Option.some.inj q); exact ⟨c1, e, rfl, p2, h2⟩
            | 1, q => cases (Option.some.inj q); exact ⟨c2, f, rfl, p3, h3⟩⟩
theorem leaf_of {K : PySem.W.Frag} {H : Hp} {v : V} {d : Py} {f g h r m : Int} (hd : Rp K H v d) (hc : IsCl (.is f g h r m) d) :
    ∃ a b, v = .ref a ∧ Sq K H a [.str "is", .ref b, .int r, .int m] ∧ Sq K H b [.int f, .int g, .int h] := by
  obtain ⟨e, h1, h2⟩ := hc
  obtain ⟨a, xs, rfl, hq, ha⟩ := hd.sq h1
  cases ha with
  | cons p1 r1 => cases p1; cases r1 with
    | cons p2 r2 => cases r2 with
      | cons p3 r3 => cases p3; cases r3 with
        | cons p4 r4 =>
          cases p4; cases r4
          obtain ⟨b, ys, rfl, hb, hy⟩ := p2.sq h2
          cases hy with
          | cons s1 t1 => cases s1; cases t1 with
            | cons s2 t2 => cases s2; cases t2 with
              | cons s3 t3 => cases s3; cases t3; exact ⟨a, b, rfl, hq, hb⟩
/-- its modulus, its truth -/
def Cl.many : Cl → Nat
  | .is _ _ _ _ m => m.toNat
  | .not c => c.many
  | .and a b => a.many.lcm b.many
  | .or a b => a.many.lcm b.many
def Cl.at (x y z : Int) : Cl → Bool
  | .is f g h r m => decide ((f * x + g * y + h * z) % m = r)
  | .not c => !c.at x y z
  | .and a b => a.at x y z && b.at x y z
  | .or a b => a.at x y z || b.at x y z
theorem Cl.dvd : ∀ {c : Cl}, c.Ok → c.many ∣ 27720 ∧ 0 < c.many
  | .is f g h r m, ok => by
    obtain ⟨d1, d2⟩ := ok.m0
    have e : m = 1 ∨ m = 2 ∨ m = 3 ∨ m = 4 ∨ m = 5 ∨ m = 6 ∨ m = 7 ∨ m = 8 ∨ m = 9 ∨ m = 10 ∨ m = 11 ∨ m = 12 := by omega
    rcases e with rfl | rfl | rfl | rfl | rfl | rfl | rfl | rfl | rfl | rfl | rfl | rfl <;> (unfold Cl.many; decide)
  | .not c, ok => Cl.dvd (c := c) ok
  | .and a b, ok => ⟨Nat.lcm_dvd (Cl.dvd ok.1).1 (Cl.dvd ok.2).1, Nat.lcm_pos (Cl.dvd ok.1).2 (Cl.dvd ok.2).2⟩
  | .or a b, ok => ⟨Nat.lcm_dvd (Cl.dvd ok.1).1 (Cl.dvd ok.2).1, Nat.lcm_pos (Cl.dvd ok.1).2 (Cl.dvd ok.2).2⟩
def lcmL (l : List Cl) : Nat := l.foldl (fun n c => n.lcm c.many) 1
theorem lcmL_kids {c : Cl} (h : c.kids ≠ []) : lcmL c.kids = c.many := by
  cases c with
  | is => exact absurd rfl h
  | not c => show (1 : Nat).lcm c.many = c.many; rw [Nat.lcm_comm, Nat.lcm_one_right]
  | and a b => show ((1 : Nat).lcm a.many).lcm b.many = a.many.lcm b.many; rw [Nat.lcm_comm 1, Nat.lcm_one_right]
  | or a b => show ((1 : Nat).lcm a.many).lcm b.many = a.many.lcm b.many; rw [Nat.lcm_comm 1, Nat.lcm_one_right]
theorem lcmL_take {l : List Cl} {i : Nat} {c : Cl} (h : l[i]? = some c) : lcmL (l.take (i + 1)) = (lcmL (l.take i)).lcm c.many := by
  have e : l.take (i + 1) = l.take i ++ [c] := by
    obtain ⟨hi, e⟩ := List.getElem?_eq_some_iff.mp h
    rw [← e, List.take_append_getElem hi]
  unfold lcmL
  rw [e, List.foldl_append] <;> rfl
theorem lcmL_dvd : ∀ (l : List Cl) (n : Nat), n ∣ 27720 → 0 < n → (∀ c ∈ l, c.Ok) → l.foldl (fun n c => n.lcm c.many) n ∣ 27720 ∧ 0 < l.foldl (fun n c => n.lcm c.many) n
  | [], n, h, h0, _ => ⟨h, h0⟩
  | c :: r, n, h, h0, hc => lcmL_dvd r _ (Nat.lcm_dvd h (Cl.dvd (hc c List.mem_cons_self)).1) (Nat.lcm_pos h0 (Cl.dvd (hc c List.mem_cons_self)).2) fun x hx => hc x (List.mem_cons_of_mem _ hx)
theorem lcmL_le {l : List Cl} (h : ∀ c ∈ l, c.Ok) : lcmL l ≤ 27720 := Nat.le_of_dvd (by decide) (lcmL_dvd l 1 (Nat.one_dvd _) (by decide) h).1
theorem Cl.le_many {c : Cl} (ok : c.Ok) : c.many ≤ 27720 := Nat.le_of_dvd (by decide) (Cl.dvd ok).1
end Kf

set_option Elab.async false
set_option linter.all false
set_option maxRecDepth 100000
set_option maxHeartbeats 4000000
namespace Kf
open PySem L2 Evl

def top (i : Nat) : Stmt := PySem.Challenge.pw_fewfounders_k55_claims_hold.main.body.getD i (.Pass ⟨0, 0, 0, 0⟩)
/-- the def st stands in the module under this name -/
def At (K : PySem.W.Frag) (mg : Str → Option Value) (name : Str) (st : Stmt) (ps : List Str) : Prop := ∃ f fd, Fun K name name st f fd ∧ mg name = some (.ref f) ∧ Binds K fd ps []
/-- the module's constants -/
structure Mc (K : PySem.W.Frag) (w : World) (mg : Str → Option Value) (t8 t12 : Tok) (wd : Addr) (es : Array DictEntry) (n : Nat) : Prop where
  deep : mg "DEEPEST" = some (.int 8 t8)
  most : mg "MOST_MODULUS" = some (.int 12 t12)
  words : mg "WORDS" = some (.ref wd)
  D : KDict K w wd es n
  k1 : ∃ t, PySem.W.nsIn K wd "is" = some (some (.int 4 t))
  k2 : ∃ t, PySem.W.nsIn K wd "not" = some (some (.int 2 t))
  k3 : ∃ t, PySem.W.nsIn K wd "and" = some (some (.int 3 t))
  k4 : ∃ t, PySem.W.nsIn K wd "or" = some (some (.int 3 t))
  k5 : ∀ z : Str, arity z = none → PySem.W.nsIn K wd z = some none
theorem hu64 {k : Nat} {A : Around} (hr : Room k A) : A.units + 64 < cLine := by have := hr.un; omega

section
variable {X : Cx} {d : Addr} {es : Array DictEntry} {n : Nat}
def rKd (K : PySem.W.Frag) (d : Addr) : R2 := fun x y H Q => ∃ (z : Str) (u0 : Value) (v0 : V), x = .ref d ∧ y = .str z ∧ PySem.W.nsIn K d z = some (some u0) ∧ RelV v0 u0 ∧ Q v0 H
theorem ix_kd (D : KDict X.K X.w d es n) : IxR X (rKd X.K d) := by
  intro value slice pins s σ H x y v u Q I rx ry h hs
  have h' := h
  obtain ⟨z, u0, v0, rfl, rfl, _⟩ := h'
  cases rx
  exact PyProof.Rows.tail_any (kd_type D I) PySem.F.slot_dict_getitem.lookup (op_item_kd D pins s σ H (.ref d) (.str z) (Value.ref d) u Q I (show RelV (.ref d) (Value.ref d) from rfl) ry h) hs
def rLcm : List V → Hp → VK → Prop := fun vs H Q => ∃ a b : Nat, vs = [.int a, .int b] ∧ a ≤ 100000 ∧ b ≤ 100000 ∧ a.lcm b ≤ 100000 ∧ Q (.int (a.lcm b : Nat)) H
theorem cr_lcm : CallR X (.builtin "math.lcm") rLcm := by
  intro pins s σ H vs us Q I r h
  obtain ⟨a, b, rfl, ha, hb, hc, q⟩ := h
  obtain ⟨t, u, rfl⟩ := Vals.int2 r
  refine PySem.W.mg_lcm_v (c := ((a.lcm b : Nat) : Int)) (by omega) (by omega) ?_ ?_ ⟨.int _, H, I.tok _, ⟨_, rfl⟩, q⟩
  · rw [Int.natAbs_natCast, Int.natAbs_natCast, Nat.lcm_comm 1 a, Nat.lcm_one_right]
  · rw [Int.natAbs_natCast]
    refine Nat.lt_of_le_of_lt (m := 17) ?_ (by decide)
    by_cases z : a.lcm b = 0
    · rw [z]; decide
    · exact Nat.le_of_lt_succ ((Nat.log2_lt z).mpr (by omega))
end

/-! ### promises -/
def spWhole (K : PySem.W.Frag) : Sp := fun vs H Q _ => ∃ x d, vs = [x] ∧ Rp K H x d ∧ RetV (.bl (isWhole d)) H Q
def spDot (K : PySem.W.Frag) : Sp := fun vs H Q _ => ∃ (p q : Addr) (f g h x y z : Int), vs = [.ref p, .ref q] ∧ Sq K H p [.int f, .int g, .int h] ∧ Sq K H q [.int x, .int y, .int z] ∧
  (-99 ≤ f ∧ f ≤ 99) ∧ (-99 ≤ g ∧ g ≤ 99) ∧ (-99 ≤ h ∧ h ≤ 99) ∧ RetV (.int (f * x + g * y + h * z)) H Q
def spBounded (K : PySem.W.Frag) : Sp := fun vs H Q _ => ∃ x d lo hi, vs = [x, .int lo, .int hi] ∧ Rp K H x d ∧ RetV (.bl (boundedB d lo hi)) H Q
def spRightIs (K : PySem.W.Frag) : Sp := fun vs H Q _ => ∃ p x0 x1 x2 x3 d1 d2 d3, vs = [.ref p] ∧ Sq K H p [x0, x1, x2, x3] ∧ Rp K H x1 d1 ∧ Rp K H x2 d2 ∧ Rp K H x3 d3 ∧ RetV (.bl (rightIs d1 d2 d3)) H Q
def spRightShape (K : PySem.W.Frag) : Sp := fun vs H Q _ => ∃ x d p ps, vs = [x, .ref p] ∧ Rp K H x d ∧ SqT K H p ps ∧ RetV (.bl (shapeB d ps.length)) H Q

section
variable {P : Program} {w : World} {K : PySem.W.Frag} {mg : Str → Option Value} {base : Heap} {H : Hp}
theorem sv_whole {x : V} {d : Py} (h : Rp K H x d) : SpV (spWhole K) [x] H (.bl (isWhole d)) := fun H1 e Q q E => ⟨x, d, rfl, h.mo e, q⟩
theorem sv_dot {p q : Addr} {f g h x y z : Int} (h1 : Sq K H p [.int f, .int g, .int h]) (h2 : Sq K H q [.int x, .int y, .int z]) (h3 : -99 ≤ f ∧ f ≤ 99) (h4 : -99 ≤ g ∧ g ≤ 99) (h5 : -99 ≤ h ∧ h ≤ 99) :
    SpV (spDot K) [.ref p, .ref q] H (.int (f * x + g * y + h * z)) := fun H1 e Q k E => ⟨p, q, f, g, h, x, y, z, rfl, h1.ex e, h2.ex e, h3, h4, h5, k⟩
theorem sv_bounded {x : V} {d : Py} {lo hi : Int} (h : Rp K H x d) : SpV (spBounded K) [x, .int lo, .int hi] H (.bl (boundedB d lo hi)) := fun H1 e Q q E => ⟨x, d, lo, hi, rfl, h.mo e, q⟩
theorem sv_rightIs {p : Addr} {x0 x1 x2 x3 : V} {d1 d2 d3 : Py} (h : Sq K H p [x0, x1, x2, x3]) (h1 : Rp K H x1 d1) (h2 : Rp K H x2 d2) (h3 : Rp K H x3 d3) : SpV (spRightIs K) [.ref p] H (.bl (rightIs d1 d2 d3)) := fun H1 e Q q E =>
  ⟨p, x0, x1, x2, x3, d1, d2, d3, rfl, h.ex e, h1.mo e, h2.mo e, h3.mo e, q⟩
theorem sv_rightShape {x : V} {d : Py} {p : Addr} {ps : List V} (h : Rp K H x d) (hp : SqT K H p ps) : SpV (spRightShape K) [x, .ref p] H (.bl (shapeB d ps.length)) := fun H1 e Q q E => ⟨x, d, p, ps, rfl, h.mo e, ex_t e hp, q⟩

/-! ### bodies -/
abbrev sWhole : Stmt := top 10
theorem scWhole : FnScope ["value"] ["value"] (defScope sWhole) := ⟨rfl, rfl, rfl, by decide +kernel, rfl, by decide +kernel, by decide +kernel⟩
abbrev sDot : Stmt := top 11
theorem scDot : FnScope ["one", "two"] ["one", "two"] (defScope sDot) := ⟨rfl, rfl, rfl, by decide +kernel, rfl, by decide +kernel, by decide +kernel⟩
abbrev sBounded : Stmt := top 16
theorem scBounded : FnScope ["number", "low", "high"] ["number", "low", "high"] (defScope sBounded) := ⟨rfl, rfl, rfl, by decide +kernel, rfl, by decide +kernel, by decide +kernel⟩
abbrev sRightIs : Stmt := top 17
theorem scRightIs : FnScope ["claim", "factors", "rest", "modulus", "factor"] ["claim"] (defScope sRightIs) := ⟨rfl, rfl, rfl, by decide +kernel, rfl, by decide +kernel, by decide +kernel⟩
abbrev sRightShape : Stmt := top 18
theorem scRightShape : FnScope ["claim", "path", "word"] ["claim", "path"] (defScope sRightShape) := ⟨rfl, rfl, rfl, by decide +kernel, rfl, by decide +kernel, by decide +kernel⟩
theorem df_whole (B : Bi mg) (S : At K mg "whole" sWhole ["value"]) : Df P w K mg base CX0 "whole" 1 ["value"] (spWhole K) := by
  obtain ⟨f, fd, F, m, b⟩ := S
  refine ⟨f, fd, m, F.kp, b, F.ok scWhole (fun vs H Q E h => ?_) (fun cdv A outer s H vs Q E hr h => ?_)⟩
  · obtain ⟨x, d, rfl, _⟩ := h
    rfl
  obtain ⟨x, d, rfl, hd, q⟩ := h
  refine ⟨_, (pss_one (ps_ret (pe_and (pe_callB call_isi rfl B.isinstance PyProof.Rows.boot_isinstance (pa_cons (pv 0) (pa_cons (pe_bltn (v := .ty "int") rfl B.int PyProof.Rows.boot_int rfl) pa_nil))) (pe_one (pe_not (pe_callB call_isi rfl B.isinstance PyProof.Rows.boot_isinstance (pa_cons (pv 0) (pa_cons (pe_bltn (v := .ty "bool") rfl B.bool PyProof.Rows.boot_bool rfl) pa_nil)))))))), ?_⟩
  refine s_ret (v := .bl (isWhole d)) (ev_is (ev_andV (ev_isi (ev_var rfl) hd (isT_int d)) (fun _ => ev_notV (ev_isi (ev_var rfl) hd (isT_bool d)))) ?_) fun H1 e => q H1 e
  cases d <;> rfl
theorem df_dot (S : At K mg "dot" sDot ["one", "two"]) : Df P w K mg base CX0 "dot" 1 ["one", "two"] (spDot K) := by
  obtain ⟨f, fd, F, m, b⟩ := S
  refine ⟨f, fd, m, F.kp, b, F.ok scDot (fun vs H Q E h => ?_) (fun cdv A outer s H vs Q E hr h => ?_)⟩
  · obtain ⟨p, q, f, g, h, x, y, z, rfl, _⟩ := h
    rfl
  obtain ⟨p, q, f, g, h, x, y, z, rfl, h1, h2, h3, h4, h5, k⟩ := h
  refine ⟨_, (pss_one (ps_ret (pe_op op_add (pe_op op_add (pe_op op_mul (pe_ix ix_lt (pv 0) pe_int (fun _ _ => rfl)) (pe_ix ix_lt (pv 1) pe_int (fun _ _ => rfl))) (pe_op op_mul (pe_ix ix_lt (pv 0) pe_int (fun _ _ => rfl)) (pe_ix ix_lt (pv 1) pe_int (fun _ _ => rfl)))) (pe_op op_mul (pe_ix ix_lt (pv 0) pe_int (fun _ _ => rfl)) (pe_ix ix_lt (pv 1) pe_int (fun _ _ => rfl)))))), ?_⟩
  refine s_ret (v := .int (f * x + g * y + h * z)) ?_ fun H1 e => k H1 e
  exact ev_op (ev_op (ev_mul (ev_op (ev_var rfl) ev_c (rv_ixQ h1 rfl)) (ev_op (ev_var rfl) ev_c (rv_ixQ h2 rfl)) (.inl ⟨by omega, by omega⟩))
    (ev_mul (ev_op (ev_var rfl) ev_c (rv_ixQ h1 rfl)) (ev_op (ev_var rfl) ev_c (rv_ixQ h2 rfl)) (.inl ⟨by omega, by omega⟩)) rv_I0)
    (ev_mul (ev_op (ev_var rfl) ev_c (rv_ixQ h1 rfl)) (ev_op (ev_var rfl) ev_c (rv_ixQ h2 rfl)) (.inl ⟨by omega, by omega⟩)) rv_I0
theorem df_bounded (DWhole : Df P w K mg base CX0 "whole" 1 ["value"] (spWhole K)) (S : At K mg "bounded" sBounded ["number", "low", "high"]) : Df P w K mg base CX0 "bounded" 2 ["number", "low", "high"] (spBounded K) := by
  obtain ⟨f, fd, F, m, b⟩ := S
  refine ⟨f, fd, m, F.kp, b, F.ok scBounded (fun vs H Q E h => ?_) (fun cdv A outer s H vs Q E hr h => ?_)⟩
  · obtain ⟨x, d, lo, hi, rfl, _⟩ := h
    rfl
  obtain ⟨x, d, lo, hi, rfl, hd, q⟩ := h
  refine ⟨_, (pss_one (ps_ret (pe_and (pe_df DWhole hr pass0 (pa_cons (pv 0) pa_nil)) (pe_one (pe_chain op_le op_le (pv 1) (pv 0) (pv 2)))))), ?_⟩
  refine s_ret (v := .bl (boundedB d lo hi)) ?_ fun H1 e => q H1 e
  cases d with
  | int i =>
    cases hd
    exact ev_is (ev_andV (a := true) (ev_callV (ea_cons (ev_var rfl) ea_nil) (sv_whole (.int i))) fun _ => ev_chain (ev_var rfl) (ev_var rfl) (ev_var rfl)) rfl
  | _ => exact ev_is (ev_andV (b := false) (ev_callV (ea_cons (ev_var rfl) ea_nil) (sv_whole hd)) fun z => Bool.noConfusion (show false = true from z)) rfl
theorem factorsB_get : ∀ {l : List Py} {i : Nat} {d : Py}, l[i]? = some d → boundedB d (-99) 99 = false → factorsB l = false
  | [], i, d, h, _ => by simp at h
  | x :: r, 0, d, h, hb => by
    have e : x = d := by simpa using h
    subst e
    show (boundedB x (-99) 99 && factorsB r) = false
    rw [hb] <;> rfl
  | x :: r, i + 1, d, h, hb => by
    have e := factorsB_get (l := r) (i := i) (d := d) (by simpa using h) hb
    show (boundedB x (-99) 99 && factorsB r) = false
    rw [e, Bool.and_false]
theorem factorsB_all : ∀ {l : List Py}, (∀ (i : Nat) d, l[i]? = some d → boundedB d (-99) 99 = true) → factorsB l = true
  | [], _ => rfl
  | x :: r, h => by
    show (boundedB x (-99) 99 && factorsB r) = true
    rw [h 0 x rfl, factorsB_all (l := r) fun i d q => h (i + 1) d (by simpa using q)] <;> rfl
theorem df_rightIs {t8 t12 : Tok} {wd : Addr} {es : Array DictEntry} {n : Nat} (B : Bi mg) (M : Mc K w mg t8 t12 wd es n) (DBounded : Df P w K mg base CX0 "bounded" 2 ["number", "low", "high"] (spBounded K)) (S : At K mg "right_is" sRightIs ["claim"]) : Df P w K mg base CX0 "right_is" 3 ["claim"] (spRightIs K) := by
  obtain ⟨f, fd, F, m, b⟩ := S
  refine ⟨f, fd, m, F.kp, b, F.ok scRightIs (fun vs H Q E h => ?_) (fun cdv A outer s H vs Q E hr h => ?_)⟩
  · obtain ⟨p, x0, x1, x2, x3, d1, d2, d3, rfl, _⟩ := h
    rfl
  obtain ⟨p, x0, x1, x2, x3, d1, d2, d3, rfl, hp, h1, h2, h3, q⟩ := h
  refine ⟨_, (pss_cons (ps_par3 (i := 1) (j := 2) (l := 3) (by rfl) scRightIs.nd rfl rfl rfl (by decide) (by decide) (by decide) rfl rfl rfl (pa_cons (pe_ix ix_lt (pv 0) pe_int (fun _ _ => rfl)) (pa_cons (pe_ix ix_lt (pv 0) pe_int (fun _ _ => rfl)) (pa_cons (pe_ix ix_lt (pv 0) pe_int (fun _ _ => rfl)) pa_nil))) (by rfl))
  (pss_cons (ps_if (PW.pt (pw_or (pt_not (pt_val (pe_callB call_isiT rfl B.isinstance PyProof.Rows.boot_isinstance (pa_cons (pv 1) (pa_cons (pe_tup (pa_cons (pe_bltn (v := .ty "list") rfl B.list PyProof.Rows.boot_list rfl) (pa_cons (pe_bltn (v := .ty "tuple") rfl B.tuple PyProof.Rows.boot_tuple rfl) pa_nil))) pa_nil))))) (pw_or1 (pt_cmpR op_ne (pe_callB call_len_seq rfl B.len PySem.boot_len (pa_cons (pv 1) pa_nil)) pe_int (nomark _))))) (pss_one (ps_ret pe_bl)) pss_nil)
  (pss_cons (ps_for PassesOwn.never rfl (pi_lt (pv 1)) (pg_name (i := 4) scRightIs.nd rfl (Or.inl rfl)) (pss_one (ps_if (pt_not (pt_val (pe_df DBounded hr pass0 (pa_cons (pv 4) (pa_cons (pe_un un_neg pe_int) (pa_cons pe_int pa_nil)))))) (pss_one (ps_ret pe_bl)) pss_nil)))
  (pss_one (ps_ret (pe_and (pe_df DBounded hr pass0 (pa_cons (pv 3) (pa_cons pe_int (pa_cons (pe_glob (v := .int 12) rfl M.most ⟨_, rfl⟩) pa_nil)))) (pe_one (pe_df DBounded hr pass0 (pa_cons (pv 2) (pa_cons pe_int (pa_cons (pe_op op_sub (pv 3) pe_int) pa_nil))))))))))), ?_⟩
  refine q_par3 (ea_cons (ev_op (ev_var rfl) ev_c (rv_ixQ hp rfl)) (ea_cons (ev_op (ev_var rfl) ev_c (rv_ixQ hp rfl)) (ea_cons (ev_op (ev_var rfl) ev_c (rv_ixQ hp rfl)) ea_nil))) fun H1 e1 => ?_
  have back : ∀ {b : Bool} {H2 : Hp}, rightIs d1 d2 d3 = b → Ex H H2 → Q (.bl b) H2 := fun hb e => by
    rw [← hb]
    exact q _ e
  cases hs : d1.seq with
  | none =>
    refine q_when (b := true) (et_is (et_or (et_not (et_B (ev_isi2 (ev_var rfl) (h1.mo e1)))) (b := true) ?_) (by rw [hs] <;> rfl)) (fun _ H2 e2 => ?_) fun z => nomatch z
    · intro z
      rw [hs] at z
      exact nomatch (show true = false from z)
    · exact s_ret ev_c fun H3 e3 => back (by unfold rightIs; rw [hs]) ((e1.trans e2).trans e3)
  | some l =>
    obtain ⟨a, xs, rfl, hq, ha⟩ := (h1.mo e1).sq hs
    have hl := ha.length
    refine q_when (b := !decide (xs.length = 3)) (et_is (et_or (et_not (et_B (ev_isi2 (ev_var rfl) (h1.mo e1)))) fun _ => et_test (ev_op (ev_lenQ (ev_var rfl) hq) ev_c (rv_ne rfl))) ?_) (fun hb H2 e2 => ?_) fun hb H2 e2 => ?_
    · rw [hs]
      show (false || !decide (V.int (xs.length : Int) = V.int 3)) = !decide (xs.length = 3)
      rw [Bool.false_or]
      congr 1
      rw [decide_eq_decide]
      constructor
      · intro z
        have := V.int.inj z
        omega
      · intro z
        rw [z] <;> rfl
    · have hn : ¬ l.length = 3 := by
        rw [← hl]
        intro z
        rw [decide_eq_true z] at hb
        exact nomatch hb
      refine s_ret ev_c fun H3 e3 => back (b := false) ?_ ((e1.trans e2).trans e3)
      unfold rightIs
      rw [hs]
      exact if_neg hn
    · have hn : l.length = 3 := by
        rw [← hl]
        by_cases z : xs.length = 3
        · exact z
        · rw [decide_eq_false z] at hb
          exact nomatch hb
      have hr1 : rightIs d1 d2 d3 = (factorsB l && modB d2 d3) := by
        unfold rightIs
        rw [hs]
        exact if_pos hn
      refine q_forS (ev_var rfl) (hq.ex e2) (fun i σ' H' => ∃ o, σ' = [some (.ref p), some (.ref a), some x2, some x3, o] ∧ Ex H2 H' ∧ ∀ (j : Nat) d, j < i → l[j]? = some d → boundedB d (-99) 99 = true)
        (fun H3 e3 => ⟨none, rfl, e3, fun j d z => absurd z (Nat.not_lt_zero j)⟩) (fun i σ' H' _ h => h.choose_spec.2.1) ?_ ?_
      · rintro i x σ' H' hi ⟨o, rfl, e3, hall⟩
        obtain ⟨d, hd, hx⟩ := ha.getV hi
        have hx' := hx.mo (e2.trans e3)
        cases hbd : boundedB d (-99) 99 with
        | false =>
          refine s_when (b := true) (et_is (et_not (et_B (ev_callV (ea_cons (ev_var rfl) (ea_cons (ev_un ev_c ru_neg) (ea_cons ev_c ea_nil))) (sv_bounded hx')))) (by rw [hbd] <;> rfl)) (fun _ H4 e4 => ?_) fun z => nomatch z
          refine s_ret ev_c fun H5 e5 => back (b := false) ?_ ((((e1.trans e2).trans e3).trans e4).trans e5)
          rw [hr1, factorsB_get hd hbd] <;> rfl
        | true =>
          refine s_when (b := false) (et_is (et_not (et_B (ev_callV (ea_cons (ev_var rfl) (ea_cons (ev_un ev_c ru_neg) (ea_cons ev_c ea_nil))) (sv_bounded hx')))) (by rw [hbd] <;> rfl)) (fun z => nomatch z) fun _ H4 e4 => ?_
          refine ⟨some x, rfl, e3.trans e4, fun j d' hj hd' => ?_⟩
          by_cases z : j < i
          · exact hall j d' z hd'
          · have : j = i := by omega
            subst this
            rw [hd] at hd'
            cases hd'
            exact hbd
      · rintro σ' H' ⟨o, rfl, e3, hall⟩
        have hf : factorsB l = true := factorsB_all fun i d hd => hall i d (by rw [hl]; exact (List.getElem?_eq_some_iff.mp hd).1) hd
        rw [hf, Bool.true_and] at hr1
        refine s_ret (v := .bl (modB d2 d3)) ?_ fun H4 e4 => back hr1 (((e1.trans e2).trans e3).trans e4)
        have k2 := ((h2.mo e1).mo e2).mo e3
        have k3 := ((h3.mo e1).mo e2).mo e3
        have c1 := ev_callV (E := E0) (ea_cons (ev_var (σ := [some (V.ref p), some (.ref a), some x2, some x3, o]) (i := 3) rfl) (ea_cons (ev_c (v := .int 1)) (ea_cons (ev_c (v := .int 12)) ea_nil))) (sv_bounded k3)
        cases d3 with
        | int i =>
          cases k3
          exact ev_andV c1 fun _ => ev_callV (ea_cons (ev_var rfl) (ea_cons ev_c (ea_cons (ev_op (ev_var rfl) ev_c rv_I0) ea_nil))) (sv_bounded k2)
        | _ => exact ev_is (ev_andV (b := false) c1 fun z => Bool.noConfusion (show false = true from z)) rfl
end
end Kf

set_option Elab.async false
set_option linter.all false
set_option maxRecDepth 100000
set_option maxHeartbeats 4000000
namespace Kf
open PySem L2 Evl

def spCheckPart (K : PySem.W.Frag) (n : Nat) : Sp := fun vs H Q _ => ∃ x d c p ps, vs = [x, .ref p] ∧ Rp K H x d ∧ SqT K H p ps ∧ IsCl c d ∧ c.Ok ∧ c.depth + ps.length ≤ 8 ∧ c.depth ≤ n ∧ RetV .non H Q
def spCheckClaim (K : PySem.W.Frag) : Sp := fun vs H Q _ => ∃ x d c, vs = [x] ∧ Rp K H x d ∧ IsCl c d ∧ c.Ok ∧ c.depth ≤ 8 ∧ RetV .non H Q
def spCommon (K : PySem.W.Frag) (n : Nat) : Sp := fun vs H Q _ => ∃ x d c, vs = [x] ∧ Rp K H x d ∧ IsCl c d ∧ c.Ok ∧ c.depth ≤ n ∧ RetV (.int (c.many : Nat)) H Q
def spHoldsAt (K : PySem.W.Frag) (n : Nat) : Sp := fun vs H Q _ => ∃ v d c q x y z, vs = [v, .ref q] ∧ Rp K H v d ∧ Sq K H q [.int x, .int y, .int z] ∧ IsCl c d ∧ c.Ok ∧ c.depth ≤ n ∧ RetV (.bl (c.at x y z)) H Q
def spHolds (K : PySem.W.Frag) : Sp := fun vs H Q _ => ∃ v d c q x y z, vs = [v, .ref q] ∧ Rp K H v d ∧ Sq K H q [.int x, .int y, .int z] ∧ IsCl c d ∧ c.Ok ∧ c.depth ≤ 8 ∧ RetV (.bl (c.at x y z)) H Q

section
variable {P : Program} {w : World} {K : PySem.W.Frag} {mg : Str → Option Value} {base : Heap} {H H' : Hp} {σ : L2.St} {ta tb : TE} {D : Ends} {tu tz : TS} {g : TG}
theorem sv_checkClaim {x : V} {d : Py} {c : Cl} (h : Rp K H x d) (hc : IsCl c d) (ok : c.Ok) (hn : c.depth ≤ 8) : SpV (spCheckClaim K) [x] H .non := fun H1 e Q q E => ⟨x, d, c, rfl, h.mo e, hc, ok, hn, q⟩
theorem sv_common {x : V} {d : Py} {c : Cl} {n : Nat} (h : Rp K H x d) (hc : IsCl c d) (ok : c.Ok) (hn : c.depth ≤ n) : SpV (spCommon K n) [x] H (.int (c.many : Nat)) := fun H1 e Q q E => ⟨x, d, c, rfl, h.mo e, hc, ok, hn, q⟩
theorem sv_holdsAt {v : V} {d : Py} {c : Cl} {n : Nat} {q : Addr} {x y z : Int} (h : Rp K H v d) (hq : Sq K H q [.int x, .int y, .int z]) (hc : IsCl c d) (ok : c.Ok) (hn : c.depth ≤ n) : SpV (spHoldsAt K n) [v, .ref q] H (.bl (c.at x y z)) :=
  fun H1 e Q k E => ⟨v, d, c, q, x, y, z, rfl, h.mo e, hq.ex e, hc, ok, hn, k⟩
theorem sv_holds {v : V} {d : Py} {c : Cl} {q : Addr} {x y z : Int} (h : Rp K H v d) (hq : Sq K H q [.int x, .int y, .int z]) (hc : IsCl c d) (ok : c.Ok) (hn : c.depth ≤ 8) : SpV (spHolds K) [v, .ref q] H (.bl (c.at x y z)) :=
  fun H1 e Q k E => ⟨v, d, c, q, x, y, z, rfl, h.mo e, hq.ex e, hc, ok, hn, k⟩
/-- t + (e,), the sum told -/
theorem evp_catA {a : Addr} {xs ys : List V} (ha : Ev ta σ H (.ref a)) (hx : SqT K H a xs) (hb : EvU tb σ H ys) (hy : ys ≠ []) (hz : xs.length + ys.length ≤ 1000) : EvP (tOp (rCatA K) ta tb) σ H fun v H1 => ∃ p, v = .ref p ∧ SqT K H1 p (xs ++ ys) := fun H1 e Q q =>
  ha H1 e _ fun H2 e2 => hb H2 (e.trans e2) _ fun p H3 hp e3 h3 => ⟨a, p, xs, ys, rfl, rfl, ex_t ((e.trans e2).trans e3) hx, st_of h3, Nat.le_of_lt (small1000 hz),
    fun z => q _ H3 (e2.trans e3) ⟨p, rfl, by rw [z]; exact st_of h3⟩, fun _ z => absurd z hy, fun _ _ l hl => q _ _ ((e2.trans e3).trans (Ex.new hl)) ⟨l, rfl, st_of upd_same⟩⟩
/-- for x in e, e a list or a tuple made on the way -/
theorem q_forSP {xs : List V} {tl : TE} (h : EvP tl σ H fun v H1 => ∃ a, v = .ref a ∧ Sq K H1 a xs) (Pv : Hp → Nat → L2.St → Hp → Prop) (h0 : ∀ H1, Ex H H1 → Pv H1 0 σ H1) (hl : ∀ H1 i σ' H', i ≤ xs.length → Pv H1 i σ' H' → Ex H1 H')
    (hs : ∀ H1 i x σ' H', Ex H H1 → xs[i]? = some x → Pv H1 i σ' H' → g x σ' H' fun σ2 H2 => tu { D with nx := Pv H1 (i + 1), ct := Pv H1 (i + 1), bk := tz D } σ2 H2) (hd : ∀ H1 σ' H', Ex H H1 → Pv H1 xs.length σ' H' → tz D σ' H') : tSeq (tFor (iSeq K tl) g tu) tz D σ H :=
  h H (Ex.refl H) _ fun v H1 e ⟨a, ev, hx⟩ => by
    subst ev
    rcases hx with hx | hx
    · exact ⟨a, xs, rfl, .inl ⟨hx, for_list (D := { D with nx := tz D }) (Pv H1) (h0 H1 e) (fun i σ' H' hi p => ex_l (hl H1 i σ' H' hi p) hx) (fun i x σ' H' hi p => hs H1 i x σ' H' e hi p) (fun σ' H' p => hd H1 σ' H' e p)⟩⟩
    · exact ⟨a, xs, rfl, .inr ⟨hx, for_tup (D := { D with nx := tz D }) (Pv H1) (h0 H1 e) (fun i σ' H' hi p => ex_t (hl H1 i σ' H' hi p) hx) (fun i x σ' H' hi p => hs H1 i x σ' H' e hi p) (fun σ' H' p => hd H1 σ' H' e p)⟩⟩
theorem cut_tail (x : V) (xs : List V) : cutV (x :: xs) (some 1) none = xs := by
  have e1 : HT.sIx (x :: xs).length 0 (some 1) = 1 := by
    show HT.sIx (x :: xs).length 0 (some ((1 : Nat) : Int)) = 1
    rw [HT.sIx_nat]
    show min 1 (xs.length + 1) = 1
    omega
  unfold cutV
  rw [e1, HT.sIx_none]
  show (xs.take (xs.length + 1 - 1)) = xs
  rw [Nat.add_sub_cancel, List.take_length]
/-- e[1:] -/
theorem evp_tail {te : TE} {a : Addr} {x : V} {xs : List V} (h : Ev te σ H (.ref a)) (hx : Sq K H a (x :: xs)) :
    EvP (tSl (fun x lo hi H Q => rSlL K x lo hi H Q ∨ rSlT K x lo hi H Q) te (tPart (tC (.int 1))) tNoPart) σ H fun v H1 => ∃ p, v = .ref p ∧ Sq K H1 p xs := fun H1 e Q q =>
  h H1 e _ fun H2 e2 => ⟨1, rfl, by
    have hx2 := hx.ex (e.trans e2)
    rcases hx2 with hx2 | hx2
    · refine Or.inl ⟨a, _, rfl, hx2, fun p hp => ?_⟩
      rw [cut_tail]
      exact q _ _ (e2.trans (Ex.new hp)) ⟨p, rfl, .inl (sq_of upd_same)⟩
    · refine Or.inr ⟨a, _, rfl, hx2, fun z => ?_, fun p hp => ?_⟩
      · have e1 : HT.sIx (x :: xs).length 0 (some 1) = 1 := by
          show HT.sIx (x :: xs).length 0 (some ((1 : Nat) : Int)) = 1
          rw [HT.sIx_nat]
          show min 1 (xs.length + 1) = 1
          omega
        rw [e1] at z
        exact absurd z.1 (by decide)
      · rw [cut_tail]
        exact q _ _ (e2.trans (Ex.new hp)) ⟨p, rfl, .inr (st_of upd_same)⟩⟩
theorem ev_notKd {wd : Addr} {z : Str} {r : Option Value} (ha : Ev ta σ H (.str z)) (hr : PySem.W.nsIn K wd z = some r) :
    Ev (tOp (fun x y H Q => ∃ (z : Str) (r : Option Value), x = .str z ∧ y = .ref wd ∧ PySem.W.nsIn K wd z = some r ∧ Q (.bl (!r.isSome)) H) ta (tC (.ref wd))) σ H (.bl (!r.isSome)) :=
  ev_op ha ev_c fun H1 e Q q => ⟨z, r, rfl, rfl, hr, q H1 (Ex.refl H1)⟩
theorem ev_kd {wd : Addr} {z : Str} {k : Int} {t : Tok} (ha : Ev ta σ H (.str z)) (hr : PySem.W.nsIn K wd z = some (some (.int k t))) : Ev (tOp (rKd K wd) (tC (.ref wd)) ta) σ H (.int k) :=
  ev_op ev_c ha fun H1 e Q q => ⟨z, .int k t, .int k, rfl, rfl, hr, ⟨t, rfl⟩, q H1 (Ex.refl H1)⟩
theorem ev_lcm {a b : Nat} (ha : Ev ta σ H (.int a)) (hb : Ev tb σ H (.int b)) (h1 : a ≤ 100000) (h2 : b ≤ 100000) (h3 : a.lcm b ≤ 100000) : Ev (tCB rLcm (tCons ta (tCons tb tNil))) σ H (.int (a.lcm b : Nat)) := fun H1 e Q q =>
  ha H1 e _ fun H2 e2 => hb H2 (e.trans e2) _ fun H3 e3 => ⟨a, b, rfl, h1, h2, h3, q H3 (e2.trans e3)⟩
/-- a comparison of two texts, of an int -/
theorem ev_strEq {x y : Str} (ha : Ev ta σ H (.str x)) (hb : Ev tb σ H (.str y)) : Ev (tOp rEq ta tb) σ H (.bl (decide (x = y))) := ev_is (ev_op ha hb (rv_eq rfl)) (by
  congr 1
  rw [decide_eq_decide]
  exact ⟨fun z => V.str.inj z, fun z => by rw [z]⟩)
theorem ev_strNe {x y : Str} (ha : Ev ta σ H (.str x)) (hb : Ev tb σ H (.str y)) : Ev (tOp rNe ta tb) σ H (.bl (!decide (x = y))) := ev_is (ev_op ha hb (rv_ne rfl)) (by
  congr 2
  rw [decide_eq_decide]
  exact ⟨fun z => V.str.inj z, fun z => by rw [z]⟩)
theorem ev_intEq {x y : Int} (ha : Ev ta σ H (.int x)) (hb : Ev tb σ H (.int y)) : Ev (tOp rEq ta tb) σ H (.bl (decide (x = y))) := ev_is (ev_op ha hb (rv_eq rfl)) (by
  congr 1
  rw [decide_eq_decide]
  exact ⟨fun z => V.int.inj z, fun z => by rw [z]⟩)
theorem ev_intNe {x y : Int} (ha : Ev ta σ H (.int x)) (hb : Ev tb σ H (.int y)) : Ev (tOp rNe ta tb) σ H (.bl (!decide (x = y))) := ev_is (ev_op ha hb (rv_ne rfl)) (by
  congr 2
  rw [decide_eq_decide]
  exact ⟨fun z => V.int.inj z, fun z => by rw [z]⟩)

abbrev sCheckPart : Stmt := top 19
theorem scCheckPart : FnScope ["claim", "path", "index"] ["claim", "path"] (defScope sCheckPart) := ⟨rfl, rfl, rfl, by decide +kernel, rfl, by decide +kernel, by decide +kernel⟩
abbrev sCheckClaim : Stmt := top 20
theorem scCheckClaim : FnScope ["claim"] ["claim"] (defScope sCheckClaim) := ⟨rfl, rfl, rfl, by decide +kernel, rfl, by decide +kernel, by decide +kernel⟩
abbrev sCommonModulus : Stmt := top 21
theorem scCommonModulus : FnScope ["claim", "many", "part"] ["claim"] (defScope sCommonModulus) := ⟨rfl, rfl, rfl, by decide +kernel, rfl, by decide +kernel, by decide +kernel⟩
abbrev sHoldsAt : Stmt := top 23
theorem scHoldsAt : FnScope ["claim", "row", "word"] ["claim", "row"] (defScope sHoldsAt) := ⟨rfl, rfl, rfl, by decide +kernel, rfl, by decide +kernel, by decide +kernel⟩
abbrev sHolds : Stmt := top 24
theorem scHolds : FnScope ["claim", "row"] ["claim", "row"] (defScope sHolds) := ⟨rfl, rfl, rfl, by decide +kernel, rfl, by decide +kernel, by decide +kernel⟩
theorem Mc.arity {t8 t12 : Tok} {wd : Addr} {es : Array DictEntry} {n : Nat} (M : Mc K w mg t8 t12 wd es n) {z : Str} {k : Nat} (h : arity z = some k) : ∃ t, PySem.W.nsIn K wd z = some (some (.int k t)) := by
  unfold Kf.arity at h
  by_cases z1 : z = "is"
  · rw [if_pos z1] at h
    cases h
    rw [z1]
    exact M.k1
  rw [if_neg z1] at h
  by_cases z2 : z = "not"
  · rw [if_pos z2] at h
    cases h
    rw [z2]
    exact M.k2
  rw [if_neg z2] at h
  by_cases z3 : z = "and"
  · rw [if_pos z3] at h
    cases h
    rw [z3]
    exact M.k3
  rw [if_neg z3] at h
  by_cases z4 : z = "or"
  · rw [if_pos z4] at h
    cases h
    rw [z4]
    exact M.k4
  rw [if_neg z4] at h
  cases h
theorem df_rightShape {t8 t12 : Tok} {wd : Addr} {es : Array DictEntry} {n : Nat} (B : Bi mg) (M : Mc K w mg t8 t12 wd es n) (DRightIs : Df P w K mg base CX0 "right_is" 3 ["claim"] (spRightIs K)) (S : At K mg "right_shape" sRightShape ["claim", "path"]) :
    Df P w K mg base CX0 "right_shape" 4 ["claim", "path"] (spRightShape K) := by
  obtain ⟨f, fd, F, m, b⟩ := S
  refine ⟨f, fd, m, F.kp, b, F.ok scRightShape (fun vs H Q E h => ?_) (fun cdv A outer s H vs Q E hr h => ?_)⟩
  · obtain ⟨x, d, p, ps, rfl, _⟩ := h
    rfl
  obtain ⟨x, d, p, ps, rfl, hd, hp, q⟩ := h
  refine ⟨_, (pss_cons (ps_if (PW.pt (pw_or (pt_not (pt_val (pe_callB call_isiT rfl B.isinstance PyProof.Rows.boot_isinstance (pa_cons (pv 0) (pa_cons (pe_tup (pa_cons (pe_bltn (v := .ty "list") rfl B.list PyProof.Rows.boot_list rfl) (pa_cons (pe_bltn (v := .ty "tuple") rfl B.tuple PyProof.Rows.boot_tuple rfl) pa_nil))) pa_nil))))) (pw_or (pt_cmpR op_eq (pe_callB call_len_seq rfl B.len PySem.boot_len (pa_cons (pv 0) pa_nil)) pe_int (nomark _)) (pw_or1 (pt_cmpR op_ge (pe_callB call_len_seq rfl B.len PySem.boot_len (pa_cons (pv 1) pa_nil)) (pe_glob (v := .int 8) rfl M.deep ⟨_, rfl⟩) (nomark _)))))) (pss_one (ps_ret pe_bl)) pss_nil)
  (pss_cons (ps_set (i := 2) scRightShape.nd rfl (Or.inl rfl) (pe_ix ix_lt (pv 0) pe_int (fun _ _ => rfl)))
  (pss_cons (ps_if (PW.pt (pw_or (pt_not (pt_val (pe_callB call_isi rfl B.isinstance PyProof.Rows.boot_isinstance (pa_cons (pv 2) (pa_cons (pe_bltn (v := .ty "str") rfl B.str PyProof.Rows.boot_str rfl) pa_nil))))) (pw_or (pt_cmpR (op_notIn_kd M.D) (pv 2) (pe_glob (v := .ref wd) rfl M.words rfl) (by rfl)) (pw_or1 (pt_cmpR op_ne (pe_callB call_len_seq rfl B.len PySem.boot_len (pa_cons (pv 0) pa_nil)) (pe_ix (ix_kd M.D) (pe_glob (v := .ref wd) rfl M.words rfl) (pv 2) (fun _ _ => rfl)) (nomark _)))))) (pss_one (ps_ret pe_bl)) pss_nil)
  (pss_one (ps_ret (pe_or (pe_cmpR op_ne (pv 2) pe_str (nomark _)) (pe_one (pe_df DRightIs hr pass0 (pa_cons (pv 0) pa_nil))))))))), ?_⟩
  have back : ∀ {b : Bool} {H2 : Hp}, shapeB d ps.length = b → Ex H H2 → Q (.bl b) H2 := fun hb e => by
    rw [← hb]
    exact q _ e
  cases hs : d.seq with
  | none =>
    refine q_when (b := true) (et_is (et_or (et_not (et_B (ev_isi2 (ev_var rfl) hd))) (b := true) ?_) (by rw [hs] <;> rfl)) (fun _ H2 e2 => ?_) fun z => nomatch z
    · intro z
      rw [hs] at z
      exact nomatch (show true = false from z)
    · exact s_ret ev_c fun H3 e3 => back (by unfold shapeB; rw [hs]) (e2.trans e3)
  | some ds =>
    obtain ⟨a, xs, rfl, hq, ha⟩ := hd.sq hs
    have hl := ha.length
    have hsh : shapeB d ps.length = (decide (ps.length < 8) && rightB ds) := by unfold shapeB; rw [hs]
    refine q_when (b := decide (xs.length = 0) || decide (8 ≤ ps.length)) (et_is (et_or (et_not (et_B (ev_isi2 (ev_var rfl) hd))) fun _ => et_or (et_test (ev_intEq (ev_lenQ (ev_var rfl) hq) ev_c)) fun _ => et_test (ev_op (ev_lenQ (ev_var rfl) (Or.inr hp)) ev_c rv_I0)) ?_) (fun hb H2 e2 => ?_) fun hb H2 e2 => ?_
    · rw [hs]
      show (false || (decide ((xs.length : Int) = 0) || decide ((8 : Int) ≤ (ps.length : Int)))) = _
      rw [Bool.false_or]
      congr 1 <;> rw [decide_eq_decide] <;> omega
    · refine s_ret ev_c fun H3 e3 => back (b := false) ?_ (e2.trans e3)
      rw [hsh]
      by_cases z : ps.length < 8
      · have h0 : ds = [] := by
          have : xs.length = 0 := by
            rcases Bool.or_eq_true_iff.mp hb with k | k
            · exact of_decide_eq_true k
            · have := of_decide_eq_true k
              omega
          exact List.eq_nil_of_length_eq_zero (by omega)
        rw [h0, show rightB [] = false from rfl, Bool.and_false]
      · rw [decide_eq_false z, Bool.false_and]
    · have hb1 := Bool.or_eq_false_iff.mp hb
      have hn : ps.length < 8 := by
        have := of_decide_eq_false hb1.2
        omega
      rw [decide_eq_true hn, Bool.true_and] at hsh
      have hq2 := hq.ex e2
      cases ha with
      | nil => exact nomatch hb1.1
      | @cons x0 xs d0 ds a0 a1 =>
      have hl1 := a1.length
      refine q_asg (v := x0) (ev_op (ev_var rfl) ev_c (rv_ixQ hq2 (atI_zero _ _))) fun H3 e3 => ?_
      have hq3 := hq2.ex e3
      have k0 := (a0.mo e2).mo e3
      have noStr : isT_strB d0 = false → rightB (d0 :: ds) = false := fun z => by
        cases d0 <;> first | rfl | exact nomatch (show true = false from z)
      cases hk : isT_strB d0 with
      | false =>
        refine q_when (b := true) (et_is (et_or (et_not (et_B (ev_isi (ev_var rfl) k0 (isT_str' d0)))) (b := true) ?_) (by rw [hk] <;> rfl)) (fun _ H4 e4 => ?_) fun z => nomatch z
        · intro z
          rw [hk] at z
          exact nomatch (show true = false from z)
        · exact s_ret ev_c fun H5 e5 => back (hsh.trans (noStr hk)) (((e2.trans e3).trans e4).trans e5)
      | true =>
        obtain ⟨z, rfl⟩ : ∃ z, d0 = .str z := by
          cases d0 <;> first | exact ⟨_, rfl⟩ | exact nomatch (show false = true from hk)
        cases a0
        cases har : arity z with
        | none =>
          have hr0 : rightB (.str z :: ds) = false := if_neg (c := arity z = some (ds.length + 1)) (by rw [har]; exact fun k => nomatch k)
          refine q_when (b := true) (et_is (et_or (et_not (et_B (ev_isi (ev_var rfl) k0 (isT_str' _)))) fun _ => et_or (et_test (ev_notKd (ev_var rfl) (M.k5 z har))) (b := true) ?_) rfl) (fun _ H4 e4 => ?_) fun z => nomatch z
          · intro k
            exact nomatch (show true = false from k)
          · exact s_ret ev_c fun H5 e5 => back (hsh.trans hr0) (((e2.trans e3).trans e4).trans e5)
        | some k =>
          obtain ⟨t, ht⟩ := M.arity har
          refine q_when (b := !decide (xs.length + 1 = k)) (et_is (et_or (et_not (et_B (ev_isi (ev_var rfl) k0 (isT_str' _)))) fun _ => et_or (et_test (ev_notKd (ev_var rfl) ht)) fun _ => et_test (ev_intNe (ev_lenQ (ev_var rfl) hq3) (ev_kd (ev_var rfl) ht))) ?_) (fun hb2 H4 e4 => ?_) fun hb2 H4 e4 => ?_
          · show (false || (false || !decide ((((V.str z :: xs).length : Nat) : Int) = (k : Int)))) = _
            rw [Bool.false_or, Bool.false_or]
            congr 1
            rw [decide_eq_decide, List.length_cons]
            omega
          · have hk2 : ¬ arity z = some (ds.length + 1) := by
              intro y
              rw [har] at y
              have y2 := Option.some.inj y
              rw [decide_eq_true (show xs.length + 1 = k by omega)] at hb2
              exact nomatch hb2
            exact s_ret ev_c fun H5 e5 => back (hsh.trans (if_neg (c := arity z = some (ds.length + 1)) hk2)) (((e2.trans e3).trans e4).trans e5)
          · have hk2 : k = ds.length + 1 := by
              by_cases y : xs.length + 1 = k
              · omega
              · rw [decide_eq_false y] at hb2
                exact nomatch hb2
            rw [hk2] at har
            by_cases hz : z = "is"
            · subst hz
              have h3 : ds.length = 3 := by
                rw [arity_is] at har
                have := Option.some.inj har
                omega
              match ds, a1, h3 with
              | [e1, e2', e3'], .cons (v := v1) b1 (.cons (v := v2) b2 (.cons (v := v3) b3 .nil)), _ =>
                have hr3 : rightB [.str "is", e1, e2', e3'] = rightIs e1 e2' e3' := by
                  show (if arity "is" = some (([e1, e2', e3'] : List Py).length + 1) then (if ("is" : Str) = "is" then rightIs e1 e2' e3' else true) else false) = _
                  rw [if_pos (show arity "is" = some (([e1, e2', e3'] : List Py).length + 1) from har), if_pos rfl]
                refine s_ret (v := .bl (rightIs e1 e2' e3')) (ev_is (ev_orV (ev_strNe (ev_var rfl) ev_c) fun _ => ev_callV (ea_cons (ev_var rfl) ea_nil) (sv_rightIs (hq3.ex e4) ((((b1.mo e2).mo e3).mo e4)) ((((b2.mo e2).mo e3).mo e4)) ((((b3.mo e2).mo e3).mo e4)))) ?_) fun H5 e5 => back (hsh.trans hr3) (((e2.trans e3).trans e4).trans e5)
                rw [decide_eq_true rfl]
                show V.bl (false || _) = _
                rw [Bool.false_or]
            · refine s_ret (v := .bl true) (ev_is (ev_orV (b := true) (ev_strNe (ev_var rfl) ev_c) fun k => ?_) ?_) fun H5 e5 => back (hsh.trans (rightB_other har hz)) (((e2.trans e3).trans e4).trans e5)
              · rw [decide_eq_false hz] at k
                exact nomatch (show true = false from k)
              · rw [decide_eq_false hz] <;> rfl
end
end Kf

set_option Elab.async false
set_option linter.all false
set_option maxRecDepth 100000
set_option maxHeartbeats 4000000
namespace Kf
open PySem L2 Evl
section
variable {P : Program} {w : World} {K : PySem.W.Frag} {mg : Str → Option Value} {base : Heap}
theorem mem_of_get {α : Type} {l : List α} {i : Nat} {x : α} (h : l[i]? = some x) : x ∈ l := List.mem_of_getElem? h
/-- a def that asks what cannot be: nothing is owed -/
theorem df_none {name : Str} {st : Stmt} {ps : List Str} {sp : Sp} {k : Nat} (S : At K mg name st ps) (no : ∀ vs H Q E, ¬ sp vs H Q E) : Df P w K mg base CX0 name k ps sp := by
  obtain ⟨f, fd, F, m, b⟩ := S
  exact ⟨f, fd, m, F.kp, b, fun vs H Q E h => absurd h (no vs H Q E), fun A outer s H args us vs Q E _ _ _ _ h => absurd h (no vs H Q E)⟩
theorem df_checkPart (B : Bi mg) (DRightShape : Df P w K mg base CX0 "right_shape" 4 ["claim", "path"] (spRightShape K)) (S : At K mg "check_part" sCheckPart ["claim", "path"]) :
    ∀ n : Nat, Df P w K mg base CX0 "check_part" (n + 4) ["claim", "path"] (spCheckPart K n)
  | 0 => df_none S fun vs H Q E h => by
    obtain ⟨x, d, c, p, ps, _, _, _, _, _, _, h, _⟩ := h
    have := c.pos
    omega
  | n + 1 => by
    have DCheckPart := df_checkPart B DRightShape S n
    obtain ⟨f, fd, F, m, b⟩ := S
    refine ⟨f, fd, m, F.kp, b, F.ok scCheckPart (fun vs H Q E h => ?_) (fun cdv A outer s H vs Q E hr h => ?_)⟩
    · obtain ⟨x, d, c, p, ps, rfl, _⟩ := h
      rfl
    obtain ⟨x, d, c, p, ps, rfl, hd, hp, hc, ok, hn, hm, q⟩ := h
    refine ⟨_, (pss_cons (ps_if (pt_not (pt_val (pe_df DRightShape hr pass0 (pa_cons (pv 0) (pa_cons (pv 1) pa_nil))))) (pss_one ps_never) pss_nil)
  (pss_one (ps_if (pt_cmpR op_ne (pe_ix ix_lt (pv 0) pe_int (fun _ _ => rfl)) pe_str (nomark _)) (pss_one (ps_for PassesOwn.never rfl (pi_range2 rfl B.range (pa_cons pe_int (pa_cons (pe_callB call_len_seq rfl B.len PySem.boot_len (pa_cons (pv 0) pa_nil)) pa_nil))) (pg_name (i := 2) scCheckPart.nd rfl (Or.inl rfl)) (pss_one (ps_expr (pe_df DCheckPart hr pass0 (pa_cons (pe_ix ix_lt (pv 0) (pv 2) (fun _ _ => rfl)) (pa_cons (pe_op op_catA (pv 1) (pe_tup (pa_cons (pv 2) pa_nil))) pa_nil))))))) pss_nil))), ?_⟩
    have hpos := c.pos
    refine q_when (b := false) (et_is (et_not (et_B (ev_callV (ea_cons (ev_var rfl) (ea_cons (ev_var rfl) ea_nil)) (sv_rightShape hd hp)))) (by rw [shape_cl ok hc (by omega)] <;> rfl)) (fun z => nomatch z) fun _ H1 e1 => ?_
    by_cases hk : c.kids = []
    · cases c with
      | is f g h r m =>
        obtain ⟨a, b, rfl, hq, hb⟩ := leaf_of (hd.mo e1) hc
        exact s_when (b := false) (et_test (ev_is (ev_strNe (ev_op (ev_var rfl) ev_c (rv_ixQ hq (atI_zero _ _))) ev_c) (by rw [decide_eq_true rfl] <;> rfl))) (fun z => nomatch z) fun _ H2 e2 => q _ (e1.trans e2)
      | _ => exact nomatch hk
    · obtain ⟨a, xs, rfl, hq, hks⟩ := kids_of (hd.mo e1) hc hk
      refine s_when (b := true) (et_test (ev_is (ev_strNe (ev_op (ev_var rfl) ev_c (rv_ixQ hq (atI_zero _ _))) ev_c) (by rw [decide_eq_false (Cl.word_is hk)] <;> rfl))) (fun _ H2 e2 => ?_) fun z => nomatch z
      have hq2 := hq.ex e2
      have hlen : c.kids.length ≤ 2 := by cases c <;> first | exact Nat.zero_le 2 | exact Nat.le_succ 1 | exact Nat.le_refl 2
      have hxs := hks.1
      refine s_forR2 (lo := 1) (n := ((V.str c.word :: xs).length : Int)) (ea_cons ev_c (ea_cons (ev_lenQ (ev_var rfl) hq2) ea_nil)) (by rw [List.length_cons]; omega) (fun i σ' H' => ∃ o, σ' = [some (.ref a), some (.ref p), o] ∧ Ex H2 H')
        (fun H3 e3 => ⟨none, rfl, e3⟩) ?_ (fun σ' H' h => by
          obtain ⟨o, rfl, e3⟩ := h
          exact q _ ((e1.trans e2).trans e3))
      rintro i σ' H' hi ⟨o, rfl, e3⟩
      rw [List.length_cons] at hi
      have hix : i < xs.length := by omega
      obtain ⟨k, e, hk1, hk2, hk3⟩ := hks.2 i xs[i] (List.getElem?_eq_getElem hix)
      have kok := Cl.kid_ok (mem_of_get hk1) ok
      have hat : atI (V.str c.word :: xs) (1 + (i : Int)) = some xs[i] := by
        have e1 : (1 : Int) + (i : Int) = ((i + 1 : Nat) : Int) := by omega
        rw [e1]
        exact atI_nat (by rw [List.getElem?_cons_succ, List.getElem?_eq_getElem hix])
      have hp3 := ex_t ((e1.trans e2).trans e3) hp
      have hk2' := hk2.mo (e2.trans e3)
      refine s_dropP (P := fun v _ => v = .non) (evp_callP (R := fun vs H4 => ∃ p', vs = [xs[i], .ref p'] ∧ SqT K H4 p' (ps ++ [.int (1 + (i : Int))])) ?_ ?_) fun v H4 e4 _ => ⟨_, rfl, e3.trans e4⟩
      · refine eap_cons (P := fun v _ => v = xs[i]) (evp_ev (ev_op (ev_var rfl) (ev_var rfl) (rv_ixQ (hq2.ex e3) hat)) fun _ _ => rfl) fun v H4 e4 ev => ?_
        subst ev
        refine eap_cons (evp_catA (ev_var rfl) (ex_t e4 hp3) (eu_tup (ea_cons (ev_var rfl) ea_nil) (by show 1 ≤ 100000; decide)) (fun z => nomatch z) (by show ps.length + 1 ≤ 1000; omega)) fun v H5 e5 hv => ?_
        obtain ⟨p', rfl, hp'⟩ := hv
        exact fun H6 e6 Q' q' => q' [] H6 (Ex.refl H6) ⟨p', rfl, ex_t e6 hp'⟩
      · rintro vs H4 e4 ⟨p', rfl, hp'⟩ H5 e5 Q' q' E'
        refine ⟨xs[i], e, k, p', _, rfl, (hk2'.mo e4).mo e5, ex_t e5 hp', hk3, kok.1, ?_, by omega, fun H6 e6 => q' _ _ e6 rfl⟩
        rw [List.length_append]
        show k.depth + (ps.length + 1) ≤ 8
        omega
theorem df_checkClaim (DCheckPart : Df P w K mg base CX0 "check_part" 12 ["claim", "path"] (spCheckPart K 8)) (S : At K mg "check_claim" sCheckClaim ["claim"]) : Df P w K mg base CX0 "check_claim" 13 ["claim"] (spCheckClaim K) := by
  obtain ⟨f, fd, F, m, b⟩ := S
  refine ⟨f, fd, m, F.kp, b, F.ok scCheckClaim (fun vs H Q E h => ?_) (fun cdv A outer s H vs Q E hr h => ?_)⟩
  · obtain ⟨x, d, c, rfl, _⟩ := h
    rfl
  obtain ⟨x, d, c, rfl, hd, hc, ok, hn, q⟩ := h
  refine ⟨_, (pss_one (ps_expr (pe_df DCheckPart hr pass0 (pa_cons (pv 0) (pa_cons (pe_tup pa_nil) pa_nil))))), ?_⟩
  refine s_dropP (P := fun v _ => v = .non) (evp_callP (R := fun vs H4 => ∃ p', vs = [x, .ref p'] ∧ SqT K H4 p' []) ?_ ?_) fun v H4 e4 _ => q _ e4
  · refine eap_cons (P := fun v _ => v = x) (evp_ev (ev_var rfl) fun _ _ => rfl) fun v H4 e4 ev => ?_
    subst ev
    refine eap_cons (evp_U (P := fun v H5 => ∃ p', v = .ref p' ∧ SqT K H5 p' []) (eu_tup ea_nil (Nat.zero_le _)) fun p H5 e5 h5 => ⟨p, rfl, st_of h5⟩) fun v H5 e5 hv => ?_
    obtain ⟨p', rfl, hp'⟩ := hv
    exact fun H6 e6 Q' q' => q' [] H6 (Ex.refl H6) ⟨p', rfl, ex_t e6 hp'⟩
  · rintro vs H4 e4 ⟨p', rfl, hp'⟩ H5 e5 Q' q' E'
    exact ⟨x, d, c, p', [], rfl, (hd.mo e4).mo e5, ex_t e5 hp', hc, ok, hn, hn, fun H6 e6 => q' _ _ e6 rfl⟩
theorem df_common (B : Bi mg) (S : At K mg "common_modulus" sCommonModulus ["claim"]) : ∀ n : Nat, Df P w K mg base CX0 "common_modulus" n ["claim"] (spCommon K n)
  | 0 => df_none S fun vs H Q E h => by
    obtain ⟨x, d, c, _, _, _, _, h, _⟩ := h
    have := c.pos
    omega
  | n + 1 => by
    have DCommonModulus := df_common B S n
    obtain ⟨f, fd, F, m, b⟩ := S
    refine ⟨f, fd, m, F.kp, b, F.ok scCommonModulus (fun vs H Q E h => ?_) (fun cdv A outer s H vs Q E hr h => ?_)⟩
    · obtain ⟨x, d, c, rfl, _⟩ := h
      rfl
    obtain ⟨x, d, c, rfl, hd, hc, ok, hn, q⟩ := h
    refine ⟨_, (pss_cons (ps_if (pt_cmpR op_eq (pe_ix ix_lt (pv 0) pe_int (fun _ _ => rfl)) pe_str (nomark _)) (pss_one (ps_ret (pe_ix ix_lt (pv 0) pe_int (fun _ _ => rfl)))) pss_nil)
  (pss_cons (ps_set (i := 1) scCommonModulus.nd rfl (Or.inl rfl) pe_int)
  (pss_cons (ps_for PassesOwn.never rfl (pi_lt (pe_slice (SlR.or sl_list sl_tup) (pv 0) (po_some pe_int) po_none)) (pg_name (i := 2) scCommonModulus.nd rfl (Or.inl rfl)) (pss_one (ps_set (i := 1) scCommonModulus.nd rfl (Or.inl rfl) (pe_callBfun cr_lcm rfl B.lcm (pa_cons (pv 1) (pa_cons (pe_df DCommonModulus hr pass0 (pa_cons (pv 2) pa_nil)) pa_nil))))))
  (pss_one (ps_ret (pv 1)))))), ?_⟩
    by_cases hk : c.kids = []
    · cases c with
      | is f g h r m =>
        obtain ⟨a, b, rfl, hq, hb⟩ := leaf_of hd hc
        refine q_when (b := true) (et_test (ev_is (ev_strEq (ev_op (ev_var rfl) ev_c (rv_ixQ hq (atI_zero _ _))) ev_c) (by rw [decide_eq_true rfl]))) (fun _ H2 e2 => ?_) fun z => nomatch z
        refine s_ret (v := .int m) (ev_op (ev_var rfl) ev_c (rv_ixQ (hq.ex e2) rfl)) fun H3 e3 => ?_
        have k := q _ (e2.trans e3)
        have z : (((Cl.is f g h r m).many : Nat) : Int) = m := by
          show ((m.toNat : Nat) : Int) = m
          have := ok.m0
          omega
        rw [z] at k
        exact k
      | _ => exact nomatch hk
    · obtain ⟨a, xs, rfl, hq, hks⟩ := kids_of hd hc hk
      refine q_when (b := false) (et_test (ev_is (ev_strEq (ev_op (ev_var rfl) ev_c (rv_ixQ hq (atI_zero _ _))) ev_c) (by rw [decide_eq_false (Cl.word_is hk)]))) (fun z => nomatch z) fun _ H1 e1 => ?_
      refine q_asg ev_c fun H2 e2 => ?_
      have kidsOk : ∀ k ∈ c.kids, k.Ok := fun k hk => (Cl.kid_ok hk ok).1
      refine q_forSP (xs := xs) (evp_tail (ev_var rfl) ((hq.ex e1).ex e2)) (fun H3 i σ' H' => ∃ o, σ' = [some (.ref a), some (.int (lcmL (c.kids.take i) : Nat)), o] ∧ Ex H3 H') (fun H3 e3 => ⟨none, rfl, Ex.refl H3⟩) (fun H3 i σ' H' _ h => h.choose_spec.2) ?_ ?_
      · rintro H3 i x σ' H' e3 hi ⟨o, rfl, e4⟩
        obtain ⟨k, e, hk1, hk2, hk3⟩ := hks.2 i x hi
        have kok := Cl.kid_ok (mem_of_get hk1) ok
        have l1 : lcmL (c.kids.take i) ≤ 27720 := lcmL_le fun k hk => kidsOk k (List.mem_of_mem_take hk)
        have l2 : lcmL (c.kids.take (i + 1)) ≤ 27720 := lcmL_le fun k hk => kidsOk k (List.mem_of_mem_take hk)
        have l3 := lcmL_take hk1
        have l4 := Cl.le_many kok.1
        refine s_asg (v := .int (lcmL (c.kids.take (i + 1)) : Nat)) (ev_is (ev_lcm (ev_var rfl) (ev_callV (ea_cons (ev_var rfl) ea_nil) (sv_common ((((hk2.mo e1).mo e2).mo e3).mo e4) hk3 kok.1 (by omega))) (by omega) (by omega) (by omega)) (by rw [l3])) fun H5 e5 => ⟨some x, rfl, e4.trans e5⟩
      · rintro H3 σ' H' e3 ⟨o, rfl, e4⟩
        refine s_ret (ev_var rfl) fun H5 e5 => ?_
        have k := q _ ((((e1.trans e2).trans e3).trans e4).trans e5)
        rw [← lcmL_kids hk] at k
        rw [hks.1, List.take_length]
        exact k
theorem df_holdsAt (B : Bi mg) (DDot : Df P w K mg base CX0 "dot" 1 ["one", "two"] (spDot K)) (S : At K mg "holds_at" sHoldsAt ["claim", "row"]) : ∀ n : Nat, Df P w K mg base CX0 "holds_at" (n + 1) ["claim", "row"] (spHoldsAt K n)
  | 0 => df_none S fun vs H Q E h => by
    obtain ⟨v, d, c, q, x, y, z, _, _, _, _, _, h, _⟩ := h
    have := c.pos
    omega
  | n + 1 => by
    have DHoldsAt := df_holdsAt B DDot S n
    obtain ⟨f, fd, F, m, b⟩ := S
    refine ⟨f, fd, m, F.kp, b, F.ok scHoldsAt (fun vs H Q E h => ?_) (fun cdv A outer s H vs Q E hr h => ?_)⟩
    · obtain ⟨v, d, c, q, x, y, z, rfl, _⟩ := h
      rfl
    obtain ⟨v, d, c, qr, x, y, z, rfl, hd, hrow, hc, ok, hn, q⟩ := h
    refine ⟨_, (pss_cons (ps_set (i := 2) scHoldsAt.nd rfl (Or.inl rfl) (pe_ix ix_lt (pv 0) pe_int (fun _ _ => rfl)))
  (pss_cons (ps_if (pt_cmpR op_eq (pv 2) pe_str (nomark _)) (pss_one (ps_ret (pe_cmpR op_eq (pe_op op_mod (pe_callTy call_int1 rfl B.int PyProof.Rows.boot_int (pa_cons (pe_df DDot hr pass0 (pa_cons (pe_ix ix_lt (pv 0) pe_int (fun _ _ => rfl)) (pa_cons (pv 1) pa_nil))) pa_nil)) (pe_ix ix_lt (pv 0) pe_int (fun _ _ => rfl))) (pe_ix ix_lt (pv 0) pe_int (fun _ _ => rfl)) (nomark _)))) pss_nil)
  (pss_cons (ps_if (pt_cmpR op_eq (pv 2) pe_str (nomark _)) (pss_one (ps_ret (pe_not (pe_df DHoldsAt hr pass0 (pa_cons (pe_ix ix_lt (pv 0) pe_int (fun _ _ => rfl)) (pa_cons (pv 1) pa_nil)))))) pss_nil)
  (pss_cons (ps_if (pt_cmpR op_eq (pv 2) pe_str (nomark _)) (pss_one (ps_ret (pe_and (pe_df DHoldsAt hr pass0 (pa_cons (pe_ix ix_lt (pv 0) pe_int (fun _ _ => rfl)) (pa_cons (pv 1) pa_nil))) (pe_one (pe_df DHoldsAt hr pass0 (pa_cons (pe_ix ix_lt (pv 0) pe_int (fun _ _ => rfl)) (pa_cons (pv 1) pa_nil))))))) pss_nil)
  (pss_one (ps_ret (pe_or (pe_df DHoldsAt hr pass0 (pa_cons (pe_ix ix_lt (pv 0) pe_int (fun _ _ => rfl)) (pa_cons (pv 1) pa_nil))) (pe_one (pe_df DHoldsAt hr pass0 (pa_cons (pe_ix ix_lt (pv 0) pe_int (fun _ _ => rfl)) (pa_cons (pv 1) pa_nil))))))))))), ?_⟩
    cases c with
    | is f g h r m =>
      obtain ⟨a, b, rfl, hq, hb⟩ := leaf_of hd hc
      refine q_asg (v := .str "is") (ev_op (ev_var rfl) ev_c (rv_ixQ hq rfl)) fun H1 e1 => ?_
      refine q_when (b := true) (et_test (ev_is (ev_strEq (ev_var rfl) ev_c) (by rw [decide_eq_true rfl]))) (fun _ H2 e2 => ?_) fun z => nomatch z
      have e12 := e1.trans e2
      refine s_ret (ev_intEq (ev_mod (ev_int (ev_callV (ea_cons (ev_op (ev_var rfl) ev_c (rv_ixQ (hq.ex e12) rfl)) (ea_cons (ev_var rfl) ea_nil)) (sv_dot (hb.ex e12) (hrow.ex e12) ok.f0 ok.g0 ok.h0))) (ev_op (ev_var rfl) ev_c (rv_ixQ (hq.ex e12) rfl)) (by have := ok.m0; omega))
        (ev_op (ev_var rfl) ev_c (rv_ixQ (hq.ex e12) rfl))) fun H3 e3 => q _ (e12.trans e3)
    | not c =>
      obtain ⟨a, xs, rfl, hq, hks⟩ := kids_of hd hc (fun z => nomatch z)
      have hdep : c.depth + 1 ≤ n + 1 := hn
      match xs, hks with
      | [u], hks =>
        obtain ⟨k, e, hk1, hk2, hk3⟩ := hks.2 0 u rfl
        cases (Option.some.inj hk1)
        refine q_asg (v := .str "not") (ev_op (ev_var rfl) ev_c (rv_ixQ hq rfl)) fun H1 e1 => ?_
        refine q_when (b := false) (et_test (ev_is (ev_strEq (ev_var rfl) ev_c) (by decide +kernel))) (fun z => nomatch z) fun _ H2 e2 => ?_
        refine q_when (b := true) (et_test (ev_is (ev_strEq (ev_var rfl) ev_c) (by decide +kernel))) (fun _ H3 e3 => ?_) fun z => nomatch z
        have ee := (e1.trans e2).trans e3
        exact s_ret (ev_notV (ev_callV (ea_cons (ev_op (ev_var rfl) ev_c (rv_ixQ (hq.ex ee) rfl)) (ea_cons (ev_var rfl) ea_nil)) (sv_holdsAt (hk2.mo ee) (hrow.ex ee) hk3 ok (by omega)))) fun H4 e4 => q _ (ee.trans e4)
    | and c1 c2 =>
      obtain ⟨a, xs, rfl, hq, hks⟩ := kids_of hd hc (fun z => nomatch z)
      have hdep : max c1.depth c2.depth + 1 ≤ n + 1 := hn
      match xs, hks with
      | [u1, u2], hks =>
        obtain ⟨k, e, hk1, hk2, hk3⟩ := hks.2 0 u1 rfl
        cases (Option.some.inj hk1)
        obtain ⟨k', e', hk1', hk2', hk3'⟩ := hks.2 1 u2 rfl
        cases (Option.some.inj hk1')
        refine q_asg (v := .str "and") (ev_op (ev_var rfl) ev_c (rv_ixQ hq rfl)) fun H1 e1 => ?_
        refine q_when (b := false) (et_test (ev_is (ev_strEq (ev_var rfl) ev_c) (by decide +kernel))) (fun z => nomatch z) fun _ H2 e2 => ?_
        refine q_when (b := false) (et_test (ev_is (ev_strEq (ev_var rfl) ev_c) (by decide +kernel))) (fun z => nomatch z) fun _ H3 e3 => ?_
        refine q_when (b := true) (et_test (ev_is (ev_strEq (ev_var rfl) ev_c) (by decide +kernel))) (fun _ H4 e4 => ?_) fun z => nomatch z
        have ee := ((e1.trans e2).trans e3).trans e4
        exact s_ret (ev_andV (ev_callV (ea_cons (ev_op (ev_var rfl) ev_c (rv_ixQ (hq.ex ee) rfl)) (ea_cons (ev_var rfl) ea_nil)) (sv_holdsAt (hk2.mo ee) (hrow.ex ee) hk3 ok.1 (by omega))) fun _ =>
          ev_callV (ea_cons (ev_op (ev_var rfl) ev_c (rv_ixQ (hq.ex ee) rfl)) (ea_cons (ev_var rfl) ea_nil)) (sv_holdsAt (hk2'.mo ee) (hrow.ex ee) hk3' ok.2 (by omega))) fun H5 e5 => q _ (ee.trans e5)
    | or c1 c2 =>
      obtain ⟨a, xs, rfl, hq, hks⟩ := kids_of hd hc (fun z => nomatch z)
      have hdep : max c1.depth c2.depth + 1 ≤ n + 1 := hn
      match xs, hks with
      | [u1, u2], hks =>
        obtain ⟨k, e, hk1, hk2, hk3⟩ := hks.2 0 u1 rfl
        cases (Option.some.inj hk1)
        obtain ⟨k', e', hk1', hk2', hk3'⟩ := hks.2 1 u2 rfl
        cases (Option.some.inj hk1')
        refine q_asg (v := .str "or") (ev_op (ev_var rfl) ev_c (rv_ixQ hq rfl)) fun H1 e1 => ?_
        refine q_when (b := false) (et_test (ev_is (ev_strEq (ev_var rfl) ev_c) (by decide +kernel))) (fun z => nomatch z) fun _ H2 e2 => ?_
        refine q_when (b := false) (et_test (ev_is (ev_strEq (ev_var rfl) ev_c) (by decide +kernel))) (fun z => nomatch z) fun _ H3 e3 => ?_
        refine q_when (b := false) (et_test (ev_is (ev_strEq (ev_var rfl) ev_c) (by decide +kernel))) (fun z => nomatch z) fun _ H4 e4 => ?_
        have ee := ((e1.trans e2).trans e3).trans e4
        exact s_ret (ev_orV (ev_callV (ea_cons (ev_op (ev_var rfl) ev_c (rv_ixQ (hq.ex ee) rfl)) (ea_cons (ev_var rfl) ea_nil)) (sv_holdsAt (hk2.mo ee) (hrow.ex ee) hk3 ok.1 (by omega))) fun _ =>
          ev_callV (ea_cons (ev_op (ev_var rfl) ev_c (rv_ixQ (hq.ex ee) rfl)) (ea_cons (ev_var rfl) ea_nil)) (sv_holdsAt (hk2'.mo ee) (hrow.ex ee) hk3' ok.2 (by omega))) fun H5 e5 => q _ (ee.trans e5)
theorem df_holds (DCheckClaim : Df P w K mg base CX0 "check_claim" 13 ["claim"] (spCheckClaim K)) (DHoldsAt : Df P w K mg base CX0 "holds_at" 9 ["claim", "row"] (spHoldsAt K 8)) (S : At K mg "holds" sHolds ["claim", "row"]) : Df P w K mg base CX0 "holds" 14 ["claim", "row"] (spHolds K) := by
  obtain ⟨f, fd, F, m, b⟩ := S
  refine ⟨f, fd, m, F.kp, b, F.ok scHolds (fun vs H Q E h => ?_) (fun cdv A outer s H vs Q E hr h => ?_)⟩
  · obtain ⟨v, d, c, q, x, y, z, rfl, _⟩ := h
    rfl
  obtain ⟨v, d, c, qr, x, y, z, rfl, hd, hrow, hc, ok, hn, q⟩ := h
  refine ⟨_, (pss_cons (ps_expr (pe_df DCheckClaim hr pass0 (pa_cons (pv 0) pa_nil)))
  (pss_one (ps_ret (pe_df DHoldsAt hr pass0 (pa_cons (pv 0) (pa_cons (pv 1) pa_nil)))))), ?_⟩
  refine q_drop (ev_callV (ea_cons (ev_var rfl) ea_nil) (sv_checkClaim hd hc ok hn)) fun H1 e1 => ?_
  exact s_ret (ev_callV (ea_cons (ev_var rfl) (ea_cons (ev_var rfl) ea_nil)) (sv_holdsAt (hd.mo e1) (hrow.ex e1) hc ok hn)) fun H2 e2 => q _ (e1.trans e2)
end
end Kf

set_option Elab.async false
set_option linter.all false
set_option maxRecDepth 100000
set_option maxHeartbeats 4000000
namespace Kf
open PySem L2 Evl

/-! ### own exceptions with one field, raised, caught, read -/
/-- an exception class of the text, C, with its __init__ at fI -/
structure Xc (K : PySem.W.Frag) (mg : Str → Option Value) (name fld : Str) (C fI : Addr) : Prop where
  gC : mg name = some (.ref C)
  T : OexC K C
  iC : PySem.W.findIn K (.ref C) "__init__" = some (some (.ref fI))
  tI : PySem.W.typeIn K (.ref fI) = some (.type "function")
  noF : PySem.W.findIn K (.ref C) fld = some none
  ga : PySem.W.findIn K (.ref C) "__getattribute__" = some (some (.builtin "BaseException.__getattribute__"))
  gg : PySem.W.findIn K (.ref C) "__getattr__" = some none
  hd : PySem.W.hasDictIn K C = true
  ha : PySem.W.findIn K (.ref C) "__class__" = some (some (.builtin "object.__class__"))
  hn : PySem.W.specialIn K (.builtin "object.__class__") "__get__" = some (some (.builtin "getset_descriptor.__get__"))
  ht : PySem.W.takesIn K (.builtin "object.__class__") = some true
  hm : PySem.W.mroIn K C (.type "object") = some true
  te : PySem.W.exmOne K (.ref C) (.ref C) = some true
theorem Xc.xf {K : PySem.W.Frag} {mg : Str → Option Value} {name fld : Str} {C fI : Addr} (x : Xc K mg name fld C fI) : XfC K C := ⟨x.ga, x.gg, x.T.exC, x.hd⟩
/-- __init__(self, v): the field is v -/
def spInit (K : PySem.W.Frag) (C : Addr) (fld : Str) : Sp := fun vs H Q _ => ∃ (a : Addr) (v : V), vs = [.ref a, v] ∧ H a = some (exo a C none) ∧ OexC K C ∧ PySem.W.findIn K (.ref C) fld = some none ∧
  ∀ d, H d = none → d ≠ a → Q .non (upd (upd H d (exd d [(fld, v)])) a (exo a C (some d)))
section
variable {P : Program} {w : World} {K : PySem.W.Frag} {mg : Str → Option Value} {base : Heap}
theorem fn_raiseN {x qual : Str} {st : Stmt} {f : Addr} {fd : FuncData} {N ps : List Str} {k : Nat} {sp : Sp} (F : Fun K x qual st f fd) (S : FnScope N ps (defScope st)) (len : ∀ vs H Q E, sp vs H Q E → vs.length = ps.length)
    (hbody : ∀ (cdv : Value) (A : Around) (outer : List Env) (s : Shared) (H : Hp) (vs : List V) (Q : VK) (E : XK), Room k (A.deeper (PyProof.Rows.envOfC qual (defScope st) s.heap.objs.size f cdv)) → sp vs H Q E →
      ∃ t, PSs (cxOf (L2N.CX P w) P w K mg base N qual (defScope st) f cdv A outer s H E) (defBody st) t ∧ t { nx := fun _ H' => Q .non H', rt := Q } (L2.start N vs) H) :
    FnOk P w K mg base (L2N.CX P w) (k + 1) f fd ps sp := by
  obtain ⟨oc, od, kV, doc, pm, an, cdv, ct, osl, rfl, lk, hcd⟩ := F.ex
  exact fn_of lk hcd S len fun A outer s H vs Q E hr h => hbody cdv A outer s H vs Q E hr h
theorem fn_hot {x qual : Str} {st : Stmt} {f : Addr} {fd : FuncData} {N ps : List Str} {k : Nat} {sp : Sp} {CX : CXT} (F : Fun K x qual st f fd) (S : FnScope N ps (defScope st)) (len : ∀ vs H Q E, sp vs H Q E → vs.length = ps.length)
    (hbody : ∀ (cdv : Value) (A : Around) (outer : List Env) (s : Shared) (H : Hp) (vs : List V) (Q : VK) (E : XK) (p : Addr × Obj), L2H.Hot1 A p → sp vs H Q E →
      ∃ t, PSs (L2H.cxH CX P w K mg base N qual (defScope st) f cdv A outer s H E p) (defBody st) t ∧ t { nx := fun _ H' => Q .non H', rt := Q } (L2.start N vs) H) : L2H.FnH P w K mg base CX (k + 1) f fd ps sp := by
  obtain ⟨oc, od, kV, doc, pm, an, cdv, ct, osl, rfl, lk, hcd⟩ := F.ex
  exact L2H.fn_ofH lk hcd S len fun A outer s H vs Q E p hot _ h => hbody cdv A outer s H vs Q E p hot h
end
section
variable {X : Cx} {CX : CXT} {x : Str} {e : Expr} {es : List Expr} {ta : TA} {p pos : Pos} {C fI : Addr} {k : Nat} {fd : FuncData} {ps : List Str} {sp : Sp}
/-- C(e, ..), its context none -/
theorem mk_exc (T : OexC X.K C) (iC : PySem.W.findIn X.K (.ref C) "__init__" = some (some (.ref fI))) (tI : PySem.W.typeIn X.K (.ref fI) = some (.type "function")) (G : FnOk X.prog X.w X.K X.mg X.base CX k fI fd ps sp) (hr : Room (k + 1) X.A) (hb : Binds X.K fd ps [])
    (hx : Passes CX X (fun _ _ _ => False)) (hg : Gl X x) (hm : X.mg x = some (.ref C)) (ha : PA X (e :: es) ta) (hdb : (x == ("__debug__" : Str)) = false := by decide)
    (he : starEach (e :: es) X.env = (false, eval e X.env) :: starEach es X.env := by rfl) (hpl : (backTo pos (starEach es X.env)).any (·.1) = false := by rfl) : L2N.PMk X (.Call (.Name x p) (e :: es) [] pos) (tMkO C sp [] ta) := by
  intro pins s σ H Q I h
  obtain ⟨nm, q, N, bs, bm, sn, sub, ab, col, dd, k0, k1, k2, k3, k5, cC, cM⟩ := T.cls
  refine wpAny_Call_Name_kw (ld_glob I hg hm (PySem.W.callWith_K (h₀ := X.base) I.ok.mod.kin T.kC (thn (ha.run pos pins s σ H _ I h) fun us s1 hh => ?_) he hpl) hdb)
  obtain ⟨vs, H1, I1, r1, hz, q1⟩ := hh
  refine ⟨I1.kIn, ?_⟩
  obtain ⟨hp, g, dr, tk, os⟩ := s1
  show wpAny _ _ (call (.ref C) us) _ _ _
  have up : hp.objs.size ≤ hp.objs.size + 1 := Nat.le_succ _
  have nx := I1.hok.fresh up
  have hq := q1 (hp.objs.size + 1) nx
  rw [List.append_nil] at hq
  have kk : ∀ b o, hp.get? b = some o → ((hp.push (PySem.W.kdv_tup us)).push (PySem.HandSPX.excO C hp.objs.size)).get? b = some o := fun _ _ z => Heap.get?_push_of_some _ (Heap.get?_push_of_some _ z)
  have ge0 : ((hp.push (PySem.W.kdv_tup us)).push (PySem.HandSPX.excO C hp.objs.size)).get? (hp.objs.size + 1) = some (PySem.HandSPX.excO C hp.objs.size) := by heap_get
  have I2 : Inv X pins σ (upd H1 (hp.objs.size + 1) (exo (hp.objs.size + 1) C none)) ⟨(hp.push (PySem.W.kdv_tup us)).push (PySem.HandSPX.excO C hp.objs.size), g, dr, tk, os⟩ :=
    I1.laid (t' := tk) (h' := (hp.push (PySem.W.kdv_tup us)).push (PySem.HandSPX.excO C hp.objs.size)) (o := exo (hp.objs.size + 1) C none) (a := hp.objs.size + 1) kk up (exo_ok ge0)
  have r2 : Vals (V.ref (hp.objs.size + 1) :: vs) (Value.ref (hp.objs.size + 1) :: us) := .cons rfl r1
  have hl : (Value.ref (hp.objs.size + 1) :: us ++ []).length = ps.length := by
    rw [List.append_nil, ← r2.length]
    exact G.len _ _ _ _ hq
  have hus : us.length ≤ sizeLine := by
    rw [← Paired.length r1, sizeLine_eq]
    omega
  have b2 := hb _ (Value.ref (hp.objs.size + 1) :: us) I2.kIn hl
  rw [List.append_nil] at b2
  refine wpAny_call (PySem.HandSPX.call_own F.excBase_ValueError (fun Y => PySem.HandSPX.refsVE_contains Y bm cM) (I1.kIn _ _ cC) (PySem.W.looks_findIn I1.kIn iC) (fun self => PySem.W.bind_fn I1.kIn self tI) hus ?_)
  refine codeAny_mono (G.run _ X.stack _ _ ⟨Value.ref (hp.objs.size + 1) :: us, []⟩ _ _ _ (fun _ _ _ => False) (hr.make C us []) (I2.env0.make C us []) b2 r2 hq) fun r s' hq' => ?_
  cases r with
  | error er => exact hx pins σ _ _ er s' I2 hq'
  | ok fl =>
    cases fl with
    | ret u =>
      obtain ⟨v, H2, os2, bare2, un2, hok2, rv, ev, d, fs, ea, ed, hd1, q2⟩ := hq'
      subst ev
      obtain ⟨h2, g2, d2, t2, os'⟩ := s'
      obtain ⟨t0, G0, J, kG, gn, hoe, na⟩ := mk_end0 (d2 := d2) (t2 := t2) I1 up kk un2 hok2 os2 bare2 ea ed hd1
      exact ⟨rv, hp.objs.size + 1, _, _, ⟨G0, g2, d2, t2, os'⟩, _, .ref C, some d, rfl, J, kG, gn, hoe, ⟨rfl, rfl, fun vs hv => by cases hv; rfl⟩, rfl, rfl, na, rfl, bare2, raises_own T.exC T.tyC, q2⟩
    | _ => exact False.elim hq'
end
section
variable {X : Cx} {a C dd fI : Addr} {oe : Obj} {pn : List (Addr × Obj)} {name fld : Str}
/-- isinstance(e, c), e the caught exception -/
def rIsX (K : PySem.W.Frag) (C a : Addr) (cls : Value) (d : Option Addr) : List V → Hp → VK → Prop := fun xs H Q => ∃ (c : V) (cv : Value) (b : Bool) (dd : Addr) (fs : List (Str × V)), xs = [.ref a, c] ∧ (∀ u, RelV c u → u = cv) ∧ cls = .ref C ∧ d = some dd ∧
  PySem.W.kitOne K (.ref C) cv = some b ∧ H dd = some (.xd fs) ∧ Q (.bl b) H
theorem call_isX {cls : Value} {d : Option Addr} (T : Xc X.K X.mg name fld C fI) (hz : Zc cls d oe) (hf : ∃ vs, oe.data = .fields vs) : CallR (X.suite a ((a, oe) :: pn)) (.builtin "isinstance") (rIsX X.K C a cls d) := by
  intro pins s σ H xs us Q I r h
  obtain ⟨c, cv, b, dd, fs, rfl, hcv, rfl, rfl, e, hd, q⟩ := h
  obtain ⟨u1, u2, rfl, r1, r2⟩ := vals2 r
  cases (show u1 = Value.ref a from r1)
  obtain rfl := hcv _ r2
  obtain ⟨hget, _⟩ := I.pin (a, oe) (List.mem_append_left _ List.mem_cons_self)
  obtain ⟨vs, hv⟩ := hf
  obtain ⟨mA, hns, _⟩ := (show ObjOk X.prog X.w H s.heap dd (.xd fs) from I.hok dd _ hd)
  obtain ⟨od, ho, _⟩ := lookIn_ns hns
  have J : PySem.W.InstAt s.heap a oe C (some od) := ⟨hget, hz.1, by unfold PySem.W.notCls; rw [hv] <;> rfl, by rw [hz.2]; exact ho⟩
  have cs : (PySem.W.clsIn X.K C).isSome = true := by
    obtain ⟨nm, q, N, bs, bm, sn, sub, ab, col, dd, k0, k1, k2, k3, k5, cC, _⟩ := T.T.cls
    unfold PySem.W.clsIn
    rw [cC] <;> rfl
  exact PySem.W.kia_one (PySem.W.kitx_exc cs T.ga T.gg T.T.exC T.ha T.hn T.ht T.hm) I.kIn J e (fun z => nomatch z) fun tk => ⟨.bl b, H, I.kept (t' := tk) fun _ _ z => z, rfl, q⟩
/-- the suite's own context -/
theorem hot_of {cls : Value} {d : Option Addr} (hz : L2N.Zn cls d oe) (hf : ∃ vs, oe.data = .fields vs) : L2H.HotC (X.suite a ((a, oe) :: pn)) := by
  obtain ⟨vs, hv⟩ := hf
  exact ⟨(a, oe), ⟨rfl, vs, hv, hz.2.2 vs hv⟩, List.mem_cons_self⟩
theorem takesN {X : Cx} : L2N.Takes X (fun _ _ _ _ => False) := fun _ _ ⟨_, _, _, _, _, _, _, _, _, _, _, _, _, _, _, _, w⟩ => w.elim
end
/-- a def called where an exception is handled -/
structure DfH (P : Program) (w : World) (K : PySem.W.Frag) (mg : Str → Option Value) (base : Heap) (name : Str) (k : Nat) (ps : List Str) (sp : Sp) : Prop where
  ex : ∃ (f : Addr) (fd : FuncData), mg name = some (.ref f) ∧ PySem.W.keepIn K (.ref f) = true ∧ Binds K fd ps [] ∧ L2H.FnH P w K mg base CX0 k f fd ps sp
section
variable {X : Cx} {name : Str} {j k : Nat} {ps : List Str} {sp : Sp} {e : Expr} {es : List Expr} {t : TA} {p pos : Pos}
theorem pe_dfH (D : DfH X.prog X.w X.K X.mg X.base name j ps sp) (hr : L2H.RoomH k X.A) (hc : L2H.HotC X) (ha : PA X (e :: es) t) (hj : j ≤ k := by omega) (hg : Gl X name := by rfl) (hdb : (name == ("__debug__" : Str)) = false := by decide)
    (he : starEach (e :: es) X.env = (false, eval e X.env) :: starEach es X.env := by rfl) (hpl : (backTo pos (starEach es X.env)).any (·.1) = false := by rfl) : PE X (.Call (.Name name p) (e :: es) [] pos) (tCallS sp (fun _ => E0) t) := by
  obtain ⟨f, fd, a, b, c, d⟩ := D.ex
  exact L2H.pe_callH d (hr.mono hj) hc hg a b c (fun σ _ _ _ _ _ _ z => z.elim) ha hdb he hpl
theorem pe_dfS {CX : CXT} {E : L2.St → XK} (D : Df X.prog X.w X.K X.mg X.base CX name j ps sp) (hr : Room k X.A) (hx : ∀ σ, PassesAt CX X σ (E σ)) (ha : PA X (e :: es) t) (hj : j ≤ k := by omega) (hg : Gl X name := by rfl) (hdb : (name == ("__debug__" : Str)) = false := by decide)
    (he : starEach (e :: es) X.env = (false, eval e X.env) :: starEach es X.env := by rfl) (hpl : (backTo pos (starEach es X.env)).any (·.1) = false := by rfl) : PE X (.Call (.Name name p) (e :: es) [] pos) (tCallS sp E t) := by
  obtain ⟨f, fd, a, b, c, d⟩ := D.ex
  exact pe_callS d (hr.mono hj) hg a b c hx ha hdb he hpl
end
end Kf

set_option Elab.async false
set_option linter.all false
set_option maxRecDepth 100000
set_option maxHeartbeats 4000000
namespace Kf
open PySem L2 Evl
abbrev sInitT : Stmt := inClass (top 5) 0
theorem scInitT : FnScope ["self", "modulus"] ["self", "modulus"] (defScope sInitT) := ⟨rfl, rfl, rfl, by decide +kernel, rfl, by decide +kernel, by decide +kernel⟩
abbrev sClaimModulus : Stmt := top 22
theorem scClaimModulus : FnScope ["claim", "modulus"] ["claim"] (defScope sClaimModulus) := ⟨rfl, rfl, rfl, by decide +kernel, rfl, by decide +kernel, by decide +kernel⟩
abbrev sLawWhole : Stmt := top 26
theorem scLawWhole : FnScope ["value"] ["value"] (defScope sLawWhole) := ⟨rfl, rfl, rfl, by decide +kernel, rfl, by decide +kernel, by decide +kernel⟩
abbrev sLawModulusTold : Stmt := top 41
theorem scLawModulusTold : FnScope ["given", "many", "told", "e"] ["given", "many"] (defScope sLawModulusTold) := ⟨rfl, rfl, rfl, by decide +kernel, rfl, by decide +kernel, by decide +kernel⟩
def spClaimMod (K : PySem.W.Frag) (C : Addr) : Sp := fun vs H Q E => ∃ x d c, vs = [x] ∧ Rp K H x d ∧ IsCl c d ∧ c.Ok ∧ c.depth ≤ 8 ∧ (c.many ≤ 12 → RetV (.int (c.many : Nat)) H Q) ∧
  (12 < c.many → ∀ H' dd, Ex H H' → H' dd = some (.xd [("modulus", .int (c.many : Nat))]) → E (.ref C) (some dd) H')
def spModTold (K : PySem.W.Frag) : Sp := fun vs H Q _ => ∃ x d c, vs = [x, .int (c.many : Nat)] ∧ Rp K H x d ∧ IsCl c d ∧ c.Ok ∧ c.depth ≤ 8 ∧ RetV (.bl true) H Q
section
variable {P : Program} {w : World} {K : PySem.W.Frag} {mg : Str → Option Value} {base : Heap} {C fI : Addr}
theorem fn_init {fd : FuncData} (F : Fun K "__init__" "TooManyRests.__init__" sInitT fI fd) : FnOk P w K mg base CX0 1 fI fd ["self", "modulus"] (spInit K C "modulus") := by
  refine F.ok scInitT (fun vs H Q E h => ?_) (fun cdv A outer s H vs Q E hr h => ?_)
  · obtain ⟨a, v, rfl, _⟩ := h
    rfl
  obtain ⟨a, v, rfl, ha, T, hno, q⟩ := h
  refine ⟨_, pss_one (ps_ost (pv 0) (pv 1)), ?_⟩
  exact ⟨_, rfl, _, rfl, a, C, rfl, T, hno, .inl ⟨ha, fun d hd hne => q d hd hne⟩⟩
theorem df_claimModulus {t8 t12 : Tok} {wd : Addr} {es : Array DictEntry} {n : Nat} (M : Mc K w mg t8 t12 wd es n) (DCheckClaim : Df P w K mg base CX0 "check_claim" 13 ["claim"] (spCheckClaim K)) (DCommonModulus : Df P w K mg base CX0 "common_modulus" 8 ["claim"] (spCommon K 8))
    (TTooManyRests : Xc K mg "TooManyRests" "modulus" C fI) {fdI : FuncData} (GTooManyRests : FnOk P w K mg base CX0 1 fI fdI ["self", "modulus"] (spInit K C "modulus")) (bTooManyRests : Binds K fdI ["self", "modulus"] []) (S : At K mg "claim_modulus" sClaimModulus ["claim"]) :
    Df P w K mg base (L2N.CX P w) "claim_modulus" 14 ["claim"] (spClaimMod K C) := by
  obtain ⟨f, fd, F, m, b⟩ := S
  refine ⟨f, fd, m, F.kp, b, fn_raiseN F scClaimModulus (fun vs H Q E h => ?_) (fun cdv A outer s H vs Q E hr h => ?_)⟩
  · obtain ⟨x, d, c, rfl, _⟩ := h
    rfl
  obtain ⟨x, d, c, rfl, hd, hc, ok, hn, q1, q2⟩ := h
  refine ⟨_, (pss_cons (ps_expr (pe_df DCheckClaim hr pass0 (pa_cons (pv 0) pa_nil)))
  (pss_cons (ps_set (i := 1) scClaimModulus.nd rfl (Or.inl rfl) (pe_df DCommonModulus hr pass0 (pa_cons (pv 0) pa_nil)))
  (pss_cons (ps_if (pt_cmpR op_gt (pv 1) (pe_glob (v := .int 12) rfl M.most ⟨_, rfl⟩) (nomark _)) (pss_one (L2N.ps_raise rfl (L2N.takes_of rfl rfl rfl rfl) (mk_exc TTooManyRests.T TTooManyRests.iC TTooManyRests.tI GTooManyRests (hr.mono (by decide)) bTooManyRests pass0 rfl TTooManyRests.gC (pa_cons (pv 1) pa_nil)))) pss_nil)
  (pss_one (ps_ret (pv 1)))))), ?_⟩
  refine q_drop (ev_callV (ea_cons (ev_var rfl) ea_nil) (sv_checkClaim hd hc ok hn)) fun H1 e1 => ?_
  refine q_asg (ev_callV (ea_cons (ev_var rfl) ea_nil) (sv_common (hd.mo e1) hc ok hn)) fun H2 e2 => ?_
  refine q_when (et_test (ev_op (ev_var rfl) ev_c rv_I0)) (fun hb H3 e3 => ?_) fun hb H3 e3 => ?_
  · have h12 : 12 < c.many := by
      have := of_decide_eq_true hb
      omega
    refine ea_cons (ev_var rfl) ea_nil H3 (Ex.refl H3) _ fun H4 e4 => ?_
    refine ⟨by show 1 ≤ 1000; decide, fun a ha => ⟨a, _, rfl, upd_same, TTooManyRests.T, TTooManyRests.noF, fun d hd' hne => ?_⟩⟩
    have hd4 : H4 d = none := by rw [upd_ne hne] at hd'; exact hd'
    refine ⟨rfl, d, [("modulus", .int (c.many : Nat))], upd_same, ?_, hd4, ?_⟩
    · rw [upd_ne hne, upd_same]
    · refine q2 h12 _ d (((e1.trans e2).trans e3).trans (e4.trans fun b o hb' => ?_)) upd_same
      have n1 : b ≠ d := ne_of_none hb' hd4
      have n2 : b ≠ a := ne_of_none hb' ha
      rw [upd_ne n1, del_ne n2, upd_ne n2, upd_ne n1, upd_ne n2]
      exact hb'
  · have h12 : c.many ≤ 12 := by
      have := of_decide_eq_false hb
      omega
    exact s_ret (ev_var rfl) fun H4 e4 => q1 h12 _ (((e1.trans e2).trans e3).trans e4)
theorem df_lawWhole (B : Bi mg) (S : At K mg "_law_whole" sLawWhole ["value"]) : Df P w K mg base CX0 "_law_whole" 1 ["value"] (spWhole K) := by
  obtain ⟨f, fd, F, m, b⟩ := S
  refine ⟨f, fd, m, F.kp, b, F.ok scLawWhole (fun vs H Q E h => ?_) (fun cdv A outer s H vs Q E hr h => ?_)⟩
  · obtain ⟨x, d, rfl, _⟩ := h
    rfl
  obtain ⟨x, d, rfl, hd, q⟩ := h
  refine ⟨_, (pss_one (ps_ret (pe_and (pe_callB call_isi rfl B.isinstance PyProof.Rows.boot_isinstance (pa_cons (pv 0) (pa_cons (pe_bltn (v := .ty "int") rfl B.int PyProof.Rows.boot_int rfl) pa_nil))) (pe_one (pe_not (pe_callB call_isi rfl B.isinstance PyProof.Rows.boot_isinstance (pa_cons (pv 0) (pa_cons (pe_bltn (v := .ty "bool") rfl B.bool PyProof.Rows.boot_bool rfl) pa_nil)))))))), ?_⟩
  refine s_ret (v := .bl (isWhole d)) (ev_is (ev_andV (ev_isi (ev_var rfl) hd (isT_int d)) (fun _ => ev_notV (ev_isi (ev_var rfl) hd (isT_bool d)))) ?_) fun H1 e => q H1 e
  cases d <;> rfl
theorem dfH_lawWhole (B : Bi mg) (S : At K mg "_law_whole" sLawWhole ["value"]) : DfH P w K mg base "_law_whole" 1 ["value"] (spWhole K) := by
  obtain ⟨f, fd, F, m, b⟩ := S
  refine ⟨f, fd, m, F.kp, b, fn_hot F scLawWhole (fun vs H Q E h => ?_) (fun cdv A outer s H vs Q E p hot h => ?_)⟩
  · obtain ⟨x, d, rfl, _⟩ := h
    rfl
  obtain ⟨x, d, rfl, hd, q⟩ := h
  refine ⟨_, (pss_one (ps_ret (pe_and (pe_callB call_isi rfl B.isinstance PyProof.Rows.boot_isinstance (pa_cons (pv 0) (pa_cons (pe_bltn (v := .ty "int") rfl B.int PyProof.Rows.boot_int rfl) pa_nil))) (pe_one (pe_not (pe_callB call_isi rfl B.isinstance PyProof.Rows.boot_isinstance (pa_cons (pv 0) (pa_cons (pe_bltn (v := .ty "bool") rfl B.bool PyProof.Rows.boot_bool rfl) pa_nil)))))))), ?_⟩
  refine s_ret (v := .bl (isWhole d)) (ev_is (ev_andV (ev_isi (ev_var rfl) hd (isT_int d)) (fun _ => ev_notV (ev_isi (ev_var rfl) hd (isT_bool d)))) ?_) fun H1 e => q H1 e
  cases d <;> rfl
theorem ev_isX {σ : L2.St} {H : Hp} {ta tb : TE} {a dd : Addr} {c : V} {cv : Value} {b : Bool} {fs : List (Str × V)} (ha : Ev ta σ H (.ref a)) (hb : Ev tb σ H c) (hc : ∀ u, RelV c u → u = cv) (hk : PySem.W.kitOne K (.ref C) cv = some b) (hd : H dd = some (.xd fs)) :
    Ev (tCB (rIsX K C a (.ref C) (some dd)) (tCons ta (tCons tb tNil))) σ H (.bl b) := fun H1 e Q q =>
  ha H1 e _ fun H2 e2 => hb H2 (e.trans e2) _ fun H3 e3 => ⟨c, cv, b, dd, fs, rfl, hc, rfl, rfl, hk, ((e.trans e2).trans e3) _ _ hd, q H3 (e2.trans e3)⟩
theorem ev_xf {σ : L2.St} {H : Hp} {ta : TE} {a dd : Addr} {v : V} {fs : List (Str × V)} {f : Str} (ha : Ev ta σ H (.ref a)) (hd : H dd = some (.xd fs)) (hl : fs.lookup f = some v) : Ev (tXf a (.ref C) (some dd) C f ta) σ H v := fun H1 e Q q =>
  ha H1 e _ fun H2 e2 => ⟨rfl, rfl, dd, fs, v, rfl, (e.trans e2) _ _ hd, hl, q H2 e2⟩
theorem ev_callH {σ : L2.St} {H : Hp} {sp : Sp} {vs : List V} {E : L2.St → XK} {ta : TA} {z : V} (h : EvA ta σ H vs) (hs : SpV sp vs H z) : Ev (tCallS sp E ta) σ H z := fun H1 e Q q => h H1 e _ fun H2 e2 => hs H2 (e.trans e2) Q (fun H3 e3 => q H3 (e2.trans e3)) (E σ)
theorem q_tryAsg {W : Ends → WX} {sp : Sp} {ta : TA} {i : Nat} {tz : TS} {D : Ends} {σ : L2.St} {H : Hp} {vs : List V} (h : EvA ta σ H vs)
    (k : ∀ H1, Ex H H1 → sp vs H1 (fun v H2 => tz D (σ.set i (some v)) H2) (fun cls d H' => W { D with nx := tz D } cls d σ H')) : tSeq (fun D σ H => tAsg (tCallS sp (WE (W D)) ta) (gName i) D σ H) tz D σ H := h H (Ex.refl H) _ fun H1 e => k H1 e
theorem df_modTold {cFewError cBadClaim cBadModulus cNoRest cMovesRest cBadText : Addr} (B : Bi mg) (DClaimModulus : Df P w K mg base (L2N.CX P w) "claim_modulus" 14 ["claim"] (spClaimMod K C)) (DLawWhole : Df P w K mg base CX0 "_law_whole" 1 ["value"] (spWhole K)) (HLawWhole : DfH P w K mg base "_law_whole" 1 ["value"] (spWhole K))
    (TTooManyRests : Xc K mg "TooManyRests" "modulus" C fI) (mVE : mg "ValueError" = none) (gFewError : mg "FewError" = some (.ref cFewError)) (gBadClaim : mg "BadClaim" = some (.ref cBadClaim)) (gBadModulus : mg "BadModulus" = some (.ref cBadModulus)) (gNoRest : mg "NoRest" = some (.ref cNoRest))
    (gMovesRest : mg "MovesRest" = some (.ref cMovesRest)) (gBadText : mg "BadText" = some (.ref cBadText)) (i1 : PySem.W.kitOne K (.ref C) (.ref cFewError) = some true) (i2 : PySem.W.kitOne K (.ref C) (.type "ValueError") = some true) (i3 : PySem.W.kitOne K (.ref C) (.ref cBadClaim) = some false)
    (i4 : PySem.W.kitOne K (.ref C) (.ref cBadModulus) = some false) (i5 : PySem.W.kitOne K (.ref C) (.ref cNoRest) = some false) (i6 : PySem.W.kitOne K (.ref C) (.ref cMovesRest) = some false) (i7 : PySem.W.kitOne K (.ref C) (.ref cBadText) = some false)
    (S : At K mg "_law_modulus_told" sLawModulusTold ["given", "many"]) : Df P w K mg base CX0 "_law_modulus_told" 15 ["given", "many"] (spModTold K) := by
  obtain ⟨f, fd, F, m, b⟩ := S
  refine ⟨f, fd, m, F.kp, b, F.ok scLawModulusTold (fun vs H Q E h => ?_) (fun cdv A outer s H vs Q E hr h => ?_)⟩
  · obtain ⟨x, d, c, rfl, _⟩ := h
    rfl
  obtain ⟨x, d, c, rfl, hd, hc, ok, hn, q⟩ := h
  refine ⟨_, (pss_cons (L2N.ps_try_as (i := 3) rfl rfl scLawModulusTold.nd rfl rfl ⟨rfl, by decide, .inl TTooManyRests.gC⟩ takesN
  (fun W pn xe tk _ => (pss_one (ps_set (i := 2) scLawModulusTold.nd rfl (Or.inl rfl) (pe_dfS DClaimModulus hr (fun σ => L2N.passAt tk σ) (pa_cons (pv 0) pa_nil)))))
  (fun a oe cls d pn hz hf => (pss_cons (ps_if (PW.pt (pw_or (pt_not (pt_val (pe_callB (call_isX TTooManyRests hz.zc hf) rfl B.isinstance PyProof.Rows.boot_isinstance (pa_cons (pv 3) (pa_cons (pe_glob (v := .ref cFewError) rfl gFewError rfl) pa_nil))))) (pw_or1 (pt_not (pt_val (pe_callB (call_isX TTooManyRests hz.zc hf) rfl B.isinstance PyProof.Rows.boot_isinstance (pa_cons (pv 3) (pa_cons (pe_bltn (v := .ty "ValueError") rfl mVE (by decide +kernel) rfl) pa_nil)))))))) (pss_one (ps_ret pe_bl)) pss_nil)
  (pss_cons (ps_if (PW.pt (pw_or (pt_val (pe_callB (call_isX TTooManyRests hz.zc hf) rfl B.isinstance PyProof.Rows.boot_isinstance (pa_cons (pv 3) (pa_cons (pe_glob (v := .ref cBadClaim) rfl gBadClaim rfl) pa_nil)))) (pw_or (pt_val (pe_callB (call_isX TTooManyRests hz.zc hf) rfl B.isinstance PyProof.Rows.boot_isinstance (pa_cons (pv 3) (pa_cons (pe_glob (v := .ref cBadModulus) rfl gBadModulus rfl) pa_nil)))) (pw_or (pt_val (pe_callB (call_isX TTooManyRests hz.zc hf) rfl B.isinstance PyProof.Rows.boot_isinstance (pa_cons (pv 3) (pa_cons (pe_glob (v := .ref cNoRest) rfl gNoRest rfl) pa_nil)))) (pw_or (pt_val (pe_callB (call_isX TTooManyRests hz.zc hf) rfl B.isinstance PyProof.Rows.boot_isinstance (pa_cons (pv 3) (pa_cons (pe_glob (v := .ref cMovesRest) rfl gMovesRest rfl) pa_nil)))) (pw_or1 (pt_val (pe_callB (call_isX TTooManyRests hz.zc hf) rfl B.isinstance PyProof.Rows.boot_isinstance (pa_cons (pv 3) (pa_cons (pe_glob (v := .ref cBadText) rfl gBadText rfl) pa_nil)))))))))) (pss_one (ps_ret pe_bl)) pss_nil)
  (pss_one (ps_ret (pe_and (pe_cmpR op_gt (pv 1) pe_int (nomark _)) (pe_and (pe_dfH HLawWhole (L2H.roomH_mark hr _) (hot_of hz hf) (pa_cons (pe_xf TTooManyRests.xf TTooManyRests.noF hz.zc hf (pv 3)) pa_nil)) (pe_one (pe_cmpR op_eq (pe_xf TTooManyRests.xf TTooManyRests.noF hz.zc hf (pv 3)) (pv 1) (nomark _)))))))))))
  (pss_one (ps_ret (pe_and (pe_cmpR op_le (pv 1) pe_int (nomark _)) (pe_and (pe_df DLawWhole hr pass0 (pa_cons (pv 2) pa_nil)) (pe_one (pe_cmpR op_eq (pv 2) (pv 1) (nomark _)))))))), ?_⟩
  refine q_tryAsg (ea_cons (ev_var rfl) ea_nil) fun H1 e1 => ?_
  refine ⟨x, d, c, rfl, hd.mo e1, hc, ok, hn, fun h12 H2 e2 => ?_, fun h12 H2 dd e2 hdd => ?_⟩
  · refine s_ret (v := .bl true) (ev_is (ev_andV (a := true) (ev_is (ev_op (ev_var rfl) ev_c rv_I0) (by rw [decide_eq_true (show ((c.many : Nat) : Int) ≤ 12 by omega)])) fun _ => ev_andV (a := true) (b := true) (ev_callV (ea_cons (ev_var rfl) ea_nil) (sv_whole (.int _))) fun _ => ev_is (ev_intEq (ev_var rfl) (ev_var rfl)) (by rw [decide_eq_true rfl])) rfl) fun H3 e3 => q _ ((e1.trans e2).trans e3)
  · refine ⟨true, TTooManyRests.te, fun _ a ha => ?_, fun z => nomatch z⟩
    have ref : ∀ {D : Addr} (u : Value), RelV (.ref D) u → u = .ref D := fun u h => h
    have cl : ∀ {T : String} (u : Value), RelV (.ty T) u → u = .type T := fun u h => h
    refine q_when (b := false) (et_is (et_or (et_not (et_B (ev_isX (ev_var rfl) ev_c ref i1 hdd))) fun _ => et_not (et_B (ev_isX (ev_var rfl) ev_c cl i2 hdd))) rfl) (fun z => nomatch z) fun _ H3 e3 => ?_
    have hd3 := e3 _ _ hdd
    refine q_when (b := false) (et_is (et_or (et_B (ev_isX (ev_var rfl) ev_c ref i3 hd3)) fun _ => et_or (et_B (ev_isX (ev_var rfl) ev_c ref i4 hd3)) fun _ => et_or (et_B (ev_isX (ev_var rfl) ev_c ref i5 hd3)) fun _ => et_or (et_B (ev_isX (ev_var rfl) ev_c ref i6 hd3)) fun _ => et_B (ev_isX (ev_var rfl) ev_c ref i7 hd3)) rfl) (fun z => nomatch z) fun _ H4 e4 => ?_
    have hd4 := e4 _ _ hd3
    refine s_ret (v := .bl true) (ev_is (ev_andV (a := true) (ev_is (ev_op (ev_var rfl) ev_c rv_I0) (by rw [decide_eq_true (show (12 : Int) < ((c.many : Nat) : Int) by omega)])) fun _ => ev_andV (a := true) (b := true) (ev_callH (ea_cons (ev_xf (ev_var rfl) hd4 rfl) ea_nil) (sv_whole (.int _))) fun _ => ev_is (ev_intEq (ev_xf (ev_var rfl) hd4 rfl) (ev_var rfl)) (by rw [decide_eq_true rfl])) rfl) fun H5 e5 => q _ ((((e1.trans e2).trans e3).trans e4).trans e5)
end
end Kf

set_option Elab.async false
set_option linter.all false
set_option maxRecDepth 100000
set_option maxHeartbeats 4000000
namespace Kf
open PySem L2 Evl
local macro_rules | `(tactic| walk_at "side") => `(tactic| first | assumption | omega | exact Or.inl ⟨by omega, by omega⟩ | exact Or.inr ⟨by omega, by omega⟩ | exact ⟨by omega, by omega⟩ | exact ⟨by decide, by decide, by decide⟩ | exact sq_of (by assumption) | exact Or.inl (by assumption) | exact Or.inl (sq_of (by assumption)) | rfl | decide)
/-! ### promises of the law's helpers -/
def spCell (K : PySem.W.Frag) : Sp := fun vs H Q _ => ∃ (l : Addr) (k : Nat) (ns : List Int), vs = [.ref l, .int (k : Int)] ∧ SqL K H l (ns.map V.int) ∧ k ≤ 100 ∧ ∀ c : Int, RetV (.int c) H Q
def DigOk (sizes ds : List Int) : Prop := ds.length = sizes.length ∧ ∀ (i : Nat) s d, sizes[i]? = some s → ds[i]? = some d → 0 ≤ d ∧ d < s
theorem DigOk.nil : DigOk [] [] := ⟨rfl, fun i s d h => by simp at h⟩
theorem DigOk.snoc {ss ds : List Int} {s d : Int} (h : DigOk ss ds) (h0 : 0 ≤ d) (h1 : d < s) : DigOk (ss ++ [s]) (ds ++ [d]) := by
  refine ⟨by rw [List.length_append, List.length_append, h.1] <;> rfl, fun i s' d' hs hd => ?_⟩
  by_cases hi : i < ss.length
  · rw [List.getElem?_append_left hi] at hs
    rw [List.getElem?_append_left (by rw [h.1]; exact hi)] at hd
    exact h.2 i s' d' hs hd
  · rw [List.getElem?_append_right (by omega)] at hs
    rw [List.getElem?_append_right (by rw [h.1]; omega)] at hd
    rw [h.1] at hd
    cases hj : i - ss.length with
    | zero =>
      rw [hj] at hs hd
      cases (Option.some.inj hs)
      cases (Option.some.inj hd)
      exact ⟨h0, h1⟩
    | succ j =>
      rw [hj] at hs
      simp at hs
theorem take_one {α : Type} {l : List α} {i : Nat} {x : α} (h : l[i]? = some x) : l.take (i + 1) = l.take i ++ [x] := by
  obtain ⟨hi, e⟩ := List.getElem?_eq_some_iff.mp h
  rw [← e, List.take_append_getElem hi]
theorem map_get {l : List Int} {i : Nat} {x : V} (h : (l.map V.int)[i]? = some x) : ∃ z, l[i]? = some z ∧ x = .int z := by
  rw [List.getElem?_map] at h
  cases e : l[i]? with
  | none => rw [e] at h; cases h
  | some z => rw [e] at h; exact ⟨z, rfl, (Option.some.inj h).symm⟩
def spDigits (K : PySem.W.Frag) : Sp := fun vs H Q _ => ∃ (c : Int) (p : Addr) (ss : List Int), vs = [.int c, .ref p] ∧ SqL K H p (ss.map V.int) ∧ (∀ s ∈ ss, 1 ≤ s ∧ s ≤ 1000000001) ∧ ss.length ≤ 1000 ∧
  ∀ ds, DigOk ss ds → ∀ q H', Ex H H' → H' q = some (.lst (ds.map V.int)) → Q (.ref q) H'
def spGcd : Sp := fun vs H Q _ => ∃ a b : Nat, vs = [.int (a : Int), .int (b : Int)] ∧ b < 100000 ∧ RetV (.int ((Nat.gcd a b : Nat) : Int)) H Q
section
variable {P : Program} {w : World} {K : PySem.W.Frag} {mg : Str → Option Value} {base : Heap} {H : Hp}
abbrev sLawCell : Stmt := top 27
theorem scLawCell : FnScope ["script", "k", "seed", "cell"] ["script", "k"] (defScope sLawCell) := ⟨rfl, rfl, rfl, by decide +kernel, rfl, by decide +kernel, by decide +kernel⟩
abbrev sLawDigits : Stmt := top 28
theorem scLawDigits : FnScope ["cell", "sizes", "row", "rest", "size", "seed", "k", "twice"] ["cell", "sizes"] (defScope sLawDigits) := ⟨rfl, rfl, rfl, by decide +kernel, rfl, by decide +kernel, by decide +kernel⟩
abbrev sLawDot : Stmt := top 29
theorem scLawDot : FnScope ["one", "two"] ["one", "two"] (defScope sLawDot) := ⟨rfl, rfl, rfl, by decide +kernel, rfl, by decide +kernel, by decide +kernel⟩
abbrev sLawGcd : Stmt := top 30
theorem scLawGcd : FnScope ["one", "two", "k", "rest"] ["one", "two"] (defScope sLawGcd) := ⟨rfl, rfl, rfl, by decide +kernel, rfl, by decide +kernel, by decide +kernel⟩
theorem df_cell (B : Bi mg) (S : At K mg "_law_cell" sLawCell ["script", "k"]) : Df P w K mg base CX0 "_law_cell" 1 ["script", "k"] (spCell K) := by
  obtain ⟨f, fd, F, m, b⟩ := S
  refine ⟨f, fd, m, F.kp, b, F.ok scLawCell (fun vs H Q E h => ?_) (fun cdv A outer s H vs Q E hr h => ?_)⟩
  · obtain ⟨l, k, ns, rfl, _⟩ := h
    rfl
  obtain ⟨l, k, ns, rfl, hl, hk, q⟩ := h
  refine ⟨_, (pss_cons (ps_if (pt_cmpR op_lt (pv 1) (pe_callB call_len_seq rfl B.len PySem.boot_len (pa_cons (pv 0) pa_nil)) (nomark _)) (pss_one (ps_ret (pe_ix ix_list (pv 0) (pv 1) (fun _ _ => rfl)))) pss_nil)
  (pss_cons (ps_set (i := 2) scLawCell.nd rfl (Or.inl rfl) pe_int)
  (pss_cons (ps_for PassesOwn.never rfl (pi_list (pv 0)) (pg_name (i := 3) scLawCell.nd rfl (Or.inl rfl)) (pss_one (ps_set (i := 2) scLawCell.nd rfl (Or.inl rfl) (pe_op op_mod (pe_callTy call_int1 rfl B.int PyProof.Rows.boot_int (pa_cons (pe_op op_add (pe_op op_mul (pv 2) pe_int) (pe_op op_mod (pe_callTy call_int1 rfl B.int PyProof.Rows.boot_int (pa_cons (pv 3) pa_nil)) pe_int)) pa_nil)) pe_int))))
  (pss_one (ps_ret (pe_op op_mod (pe_callTy call_int1 rfl B.int PyProof.Rows.boot_int (pa_cons (pe_op op_mul (pe_op op_mul (pe_op op_add (pv 2) pe_int) (pe_op op_add (pv 1) pe_int)) pe_int) pa_nil)) pe_int)))))), ?_⟩
  refine q_when (et_test (ev_op (ev_var rfl) (ev_lenQ (ev_var rfl) (.inl hl)) rv_I0)) (fun hb H1 e1 => ?_) fun hb H1 e1 => ?_
  · have h1 := of_decide_eq_true hb
    rw [List.length_map] at h1
    exact s_ret (ev_op (ev_var rfl) (ev_var rfl) (rv_ixL (ex_l e1 hl) (atI_ints (by omega) h1))) fun H2 e2 => q _ _ (e1.trans e2)
  · refine q_asg ev_c fun H2 e2 => ?_
    have e02 := e1.trans e2
    refine q_forLn (ev_var rfl) (ex_l e02 hl) (fun i σ' H' => ∃ s o, σ' = [some (.ref l), some (.int (k : Int)), some (.int s), o] ∧ (0 ≤ s ∧ s < 1000003) ∧ Ex H H') (fun H3 e3 => ⟨17, none, rfl, ⟨by decide, by decide⟩, e02.trans e3⟩) (fun i σ' H' _ h => ex_l h.choose_spec.choose_spec.2.2 hl) ?_ ?_
    · rintro i x σ' H' hi ⟨s, o, rfl, ⟨s0, s1⟩, e3⟩
      obtain ⟨z, hz, rfl⟩ := map_get hi
      exact s_asg (ev_mod (ev_int (ev_op (ev_mul (ev_var rfl) ev_c (by walk_at "side")) (ev_mod (ev_int (ev_var rfl)) ev_c (by walk_at "side")) rv_I0)) ev_c (by walk_at "side")) fun H4 e4 => ⟨_, _, rfl, ⟨Int.emod_nonneg _ (by decide), Int.emod_lt_of_pos _ (by decide)⟩, e3.trans e4⟩
    · rintro σ' H' ⟨s, o, rfl, ⟨s0, s1⟩, e3⟩
      have z1 : (s + 7) * ((k : Int) + 3) < 2 ^ 64 := by
        have a1 : (s + 7) * ((k : Int) + 3) ≤ 1000010 * ((k : Int) + 3) := Int.mul_le_mul_of_nonneg_right (by omega) (by omega)
        omega
      have z0 : 0 ≤ (s + 7) * ((k : Int) + 3) := Int.mul_nonneg (by omega) (by omega)
      exact s_ret (ev_mod (ev_int (ev_mul (ev_mul (ev_op (ev_var rfl) ev_c rv_I0) (ev_op (ev_var rfl) ev_c rv_I0) (by walk_at "side")) ev_c (by walk_at "side"))) ev_c (by walk_at "side")) fun H4 e4 => q _ _ (e3.trans e4)
theorem df_digits (B : Bi mg) (S : At K mg "_law_digits" sLawDigits ["cell", "sizes"]) : Df P w K mg base CX0 "_law_digits" 1 ["cell", "sizes"] (spDigits K) := by
  obtain ⟨f, fd, F, m, b⟩ := S
  refine ⟨f, fd, m, F.kp, b, F.ok scLawDigits (fun vs H Q E h => ?_) (fun cdv A outer s H vs Q E hr h => ?_)⟩
  · obtain ⟨c, p, ss, rfl, _⟩ := h
    rfl
  obtain ⟨c, p, ss, rfl, hp, hs, hlen, q⟩ := h
  refine ⟨_, (pss_cons (ps_set (i := 2) scLawDigits.nd rfl (Or.inl rfl) (pe_lst pa_nil))
  (pss_cons (ps_set (i := 3) scLawDigits.nd rfl (Or.inl rfl) (pe_callTy call_int1 rfl B.int PyProof.Rows.boot_int (pa_cons (pv 0) pa_nil)))
  (pss_cons (ps_if (pt_cmpR op_ge (pv 3) (pe_op op_pow pe_int pe_int) (nomark _)) (pss_cons (ps_set (i := 3) scLawDigits.nd rfl (Or.inl rfl) (pe_op op_sub (pv 3) (pe_op op_pow pe_int pe_int)))
  (pss_cons (ps_for PassesOwn.never rfl (pi_list (pv 1)) (pg_name (i := 4) scLawDigits.nd rfl (Or.inl rfl)) (pss_cons (ps_expr (pe_bm PySem.F.plainAttrs_list PySem.F.slot_list_append PySem.F.type_list_append mt_append (pv 2) (pa_cons (pe_op op_mod (pe_callTy call_int1 rfl B.int PyProof.Rows.boot_int (pa_cons (pv 3) pa_nil)) (pv 4)) pa_nil)))
  (pss_one (ps_set (i := 3) scLawDigits.nd rfl (Or.inl rfl) (pe_op op_fdiv (pe_callTy call_int1 rfl B.int PyProof.Rows.boot_int (pa_cons (pv 3) pa_nil)) (pv 4))))))
  (pss_one (ps_ret (pv 2))))) pss_nil)
  (pss_cons (ps_set (i := 5) scLawDigits.nd rfl (Or.inl rfl) (pe_op op_mod (pe_callTy call_int1 rfl B.int PyProof.Rows.boot_int (pa_cons (pv 3) pa_nil)) pe_int))
  (pss_cons (ps_for PassesOwn.never rfl (pi_range1 rfl B.range (pa_cons (pe_callB call_len_seq rfl B.len PySem.boot_len (pa_cons (pv 1) pa_nil)) pa_nil)) (pg_name (i := 6) scLawDigits.nd rfl (Or.inl rfl)) (pss_cons (ps_set (i := 5) scLawDigits.nd rfl (Or.inl rfl) (pe_op op_mod (pe_callTy call_int1 rfl B.int PyProof.Rows.boot_int (pa_cons (pe_op op_add (pe_op op_add (pe_op op_mul (pv 5) pe_int) (pe_op op_mul pe_int (pv 6))) pe_int) pa_nil)) pe_int))
  (pss_cons (ps_set (i := 7) scLawDigits.nd rfl (Or.inl rfl) (pe_op op_mod (pe_callTy call_int1 rfl B.int PyProof.Rows.boot_int (pa_cons (pe_op op_mul (pv 5) (pe_op op_add (pe_op op_fdiv (pv 5) pe_int) pe_int)) pa_nil)) pe_int))
  (pss_one (ps_expr (pe_bm PySem.F.plainAttrs_list PySem.F.slot_list_append PySem.F.type_list_append mt_append (pv 2) (pa_cons (pe_op op_mod (pe_op op_fdiv (pv 7) pe_int) (pe_ix ix_list (pv 1) (pv 6) (fun _ _ => rfl))) pa_nil)))))))
  (pss_one (ps_ret (pv 2)))))))), ?_⟩
  refine q_asgL (el_lst ea_nil (Nat.zero_le _)) fun r H1 hr0 e1 hr1 => ?_
  refine q_asg (ev_int (ev_var rfl)) fun H2 e2 => ?_
  have hr2 := e2 _ _ hr1
  refine q_when (et_test (ev_op (ev_var rfl) (ev_pow ev_c ev_c (by walk_at "side")) rv_I0)) (fun hb H3 e3 => ?_) fun hb H3 e3 => ?_
  · refine q_asg (ev_op (ev_var rfl) (ev_pow ev_c ev_c (by walk_at "side")) rv_I0) fun H4 e4 => ?_
    have e04 := ((e1.trans e2).trans e3).trans e4
    refine q_forLn (ev_var rfl) (ex_l e04 hp) (fun i σ' H' => ∃ z o ds, σ' = [some (.int c), some (.ref p), some (.ref r), some (.int z), o, none, none, none] ∧ H' r = some (.lst (ds.map V.int)) ∧ DigOk (ss.take i) ds ∧ Ex H H')
      (fun H5 e5 => ⟨_, none, [], rfl, e5 _ _ (e4 _ _ (e3 _ _ hr2)), by rw [List.take_zero]; exact DigOk.nil, e04.trans e5⟩) (fun i σ' H' _ h => ex_l h.choose_spec.choose_spec.choose_spec.2.2.2 hp) ?_ ?_
    · rintro i x σ' H' hi ⟨z, o, ds, rfl, hr5, hds, e5⟩
      obtain ⟨sz, hsz, rfl⟩ := map_get hi
      obtain ⟨b1, b2⟩ := hs sz (mem_of_get hsz)
      have hil := (List.getElem?_eq_some_iff.mp hsz).1
      have dl : (ds.map V.int).length < 100000 := by rw [List.length_map, hds.1, List.length_take]; omega
      refine q_app hr5 (ev_var rfl) (ev_mod (ev_int (ev_var rfl)) (ev_var rfl) (by walk_at "side")) dl fun H6 e6 => ?_
      refine s_asg (ev_fdiv (ev_int (ev_var rfl)) (ev_var rfl) (by walk_at "side")) fun H7 e7 => ?_
      refine ⟨_, _, ds ++ [z % sz], rfl, e7 _ _ ?_, ?_, (Ex.mut (e5.trans e6) hr0).trans e7⟩
      · rw [List.map_append]
        exact upd_same
      · rw [take_one hsz]
        exact hds.snoc (Int.emod_nonneg _ (by omega)) (Int.emod_lt_of_pos _ (by omega))
    · rintro σ' H' ⟨z, o, ds, rfl, hr5, hds, e5⟩
      rw [List.length_map, List.take_length] at hds
      exact s_ret (ev_var rfl) fun H6 e6 => q ds hds r _ (e5.trans e6) (e6 _ _ hr5)
  · refine q_asg (ev_mod (ev_int (ev_var rfl)) ev_c (by walk_at "side")) fun H4 e4 => ?_
    have e04 := ((e1.trans e2).trans e3).trans e4
    refine q_forR1 (ea_cons (ev_len (ev_var rfl) (ex_l e04 hp)) ea_nil) (by rw [List.length_map]; omega) (fun i σ' H' => ∃ z o o2 ds, σ' = [some (.int c), some (.ref p), some (.ref r), some (.int c), none, some (.int z), o, o2] ∧ H' r = some (.lst (ds.map V.int)) ∧ DigOk (ss.take i) ds ∧ (0 ≤ z ∧ z < 2147483647) ∧ Ex H H')
      (fun H5 e5 => ⟨_, none, none, [], rfl, e5 _ _ (e4 _ _ (e3 _ _ hr2)), by rw [List.take_zero]; exact DigOk.nil, ⟨Int.emod_nonneg _ (by decide), by have := Int.emod_lt_of_pos c (show (0 : Int) < 2147483629 by decide); omega⟩, e04.trans e5⟩) ?_ ?_
    · rintro i σ' H' hi ⟨z, o, o2, ds, rfl, hr5, hds, ⟨z0, z1⟩, e5⟩
      rw [List.length_map] at hi
      have hil : i < ss.length := by omega
      have hsz : ss[i]? = some ss[i] := List.getElem?_eq_getElem hil
      obtain ⟨b1, b2⟩ := hs ss[i] (List.getElem_mem hil)
      have dl : (ds.map V.int).length < 100000 := by rw [List.length_map, hds.1, List.length_take]; omega
      refine q_asg (ev_mod (ev_int (ev_op (ev_op (ev_mul (ev_var rfl) ev_c (by walk_at "side")) (ev_mul ev_c (ev_var rfl) (by walk_at "side")) rv_I0) ev_c rv_I0)) ev_c (by walk_at "side")) fun H6 e6 => ?_
      have y0 : 0 ≤ (z * 48271 + 974711 * (i : Int) + 12345) % 2147483647 := Int.emod_nonneg _ (by decide)
      have y1 : (z * 48271 + 974711 * (i : Int) + 12345) % 2147483647 < 2147483647 := Int.emod_lt_of_pos _ (by decide)
      generalize (z * 48271 + 974711 * (i : Int) + 12345) % 2147483647 = y at y0 y1 ⊢
      refine q_asg (ev_mod (ev_int (ev_mul (ev_var rfl) (ev_op (ev_fdiv (ev_var rfl) ev_c (by walk_at "side")) ev_c rv_I0) (by walk_at "side"))) ev_c (by walk_at "side")) fun H7 e7 => ?_
      generalize y * (y / 65537 + 3) % 2147483629 = t
      have pix : SqL K H7 p (ss.map V.int) := ex_l ((e5.trans e6).trans e7) hp
      have hat : atI (ss.map V.int) (i : Int) = some (.int ss[i]) := atI_nat (by rw [List.getElem?_map, hsz] <;> rfl)
      refine s_app (e7 _ _ (e6 _ _ hr5)) (ev_var rfl) (ev_mod (ev_fdiv (ev_var rfl) ev_c (by walk_at "side")) (ev_op (ev_var rfl) (ev_var rfl) (rv_ixL (by walk_at "side") (by walk_at "side"))) (by walk_at "side")) dl fun H8 e8 => ?_
      refine ⟨_, _, _, ds ++ [t / 19 % ss[i]], rfl, ?_, ?_, ⟨y0, y1⟩, Ex.mut (((e5.trans e6).trans e7).trans e8) hr0⟩
      · rw [List.map_append]
        exact upd_same
      · rw [take_one hsz]
        exact hds.snoc (Int.emod_nonneg _ (by omega)) (Int.emod_lt_of_pos _ (by omega))
    · rintro σ' H' ⟨z, o, o2, ds, rfl, hr5, hds, _, e5⟩
      rw [Int.toNat_natCast, List.length_map, List.take_length] at hds
      exact s_ret (ev_var rfl) fun H6 e6 => q ds hds r _ (e5.trans e6) (e6 _ _ hr5)
theorem df_lawDot (S : At K mg "_law_dot" sLawDot ["one", "two"]) : Df P w K mg base CX0 "_law_dot" 1 ["one", "two"] (spDot K) := by
  obtain ⟨f, fd, F, m, b⟩ := S
  refine ⟨f, fd, m, F.kp, b, F.ok scLawDot (fun vs H Q E h => ?_) (fun cdv A outer s H vs Q E hr h => ?_)⟩
  · obtain ⟨p, q, f, g, h, x, y, z, rfl, _⟩ := h
    rfl
  obtain ⟨p, q, f, g, h, x, y, z, rfl, h1, h2, h3, h4, h5, k⟩ := h
  refine ⟨_, (pss_one (ps_ret (pe_op op_add (pe_op op_add (pe_op op_mul (pe_ix ix_lt (pv 0) pe_int (fun _ _ => rfl)) (pe_ix ix_lt (pv 1) pe_int (fun _ _ => rfl))) (pe_op op_mul (pe_ix ix_lt (pv 0) pe_int (fun _ _ => rfl)) (pe_ix ix_lt (pv 1) pe_int (fun _ _ => rfl)))) (pe_op op_mul (pe_ix ix_lt (pv 0) pe_int (fun _ _ => rfl)) (pe_ix ix_lt (pv 1) pe_int (fun _ _ => rfl)))))), ?_⟩
  exact s_ret (v := .int (f * x + g * y + h * z)) (ev_op (ev_op (ev_mul (ev_op (ev_var rfl) ev_c (rv_ixQ (by walk_at "side") (by walk_at "side"))) (ev_op (ev_var rfl) ev_c (rv_ixQ (by walk_at "side") (by walk_at "side"))) (by walk_at "side")) (ev_mul (ev_op (ev_var rfl) ev_c (rv_ixQ (by walk_at "side") (by walk_at "side"))) (ev_op (ev_var rfl) ev_c (rv_ixQ (by walk_at "side") (by walk_at "side"))) (by walk_at "side")) rv_I0) (ev_mul (ev_op (ev_var rfl) ev_c (rv_ixQ (by walk_at "side") (by walk_at "side"))) (ev_op (ev_var rfl) ev_c (rv_ixQ (by walk_at "side") (by walk_at "side"))) (by walk_at "side")) rv_I0) fun H1 e => k H1 e
theorem df_lawGcd (B : Bi mg) (S : At K mg "_law_gcd" sLawGcd ["one", "two"]) : Df P w K mg base CX0 "_law_gcd" 1 ["one", "two"] spGcd := by
  obtain ⟨f, fd, F, m, b⟩ := S
  refine ⟨f, fd, m, F.kp, b, F.ok scLawGcd (fun vs H Q E h => ?_) (fun cdv A outer s H vs Q E hr h => ?_)⟩
  · obtain ⟨a, b, rfl, _⟩ := h
    rfl
  obtain ⟨a, b, rfl, hb, q⟩ := h
  refine ⟨_, (pss_cons (ps_set (i := 0) scLawGcd.nd rfl (Or.inl rfl) (pe_callB call_abs rfl B.abs PyProof.Rows.boot_abs (pa_cons (pv 0) pa_nil)))
  (pss_cons (ps_set (i := 1) scLawGcd.nd rfl (Or.inl rfl) (pe_callB call_abs rfl B.abs PyProof.Rows.boot_abs (pa_cons (pv 1) pa_nil)))
  (pss_cons (ps_for PassesOwn.never rfl (pi_range1 rfl B.range (pa_cons pe_int pa_nil)) (pg_name (i := 2) scLawGcd.nd rfl (Or.inl rfl)) (pss_cons (ps_if (pt_cmpR op_eq (pv 1) pe_int (nomark _)) (pss_one (ps_ret (pv 0))) pss_nil)
  (pss_cons (ps_set (i := 3) scLawGcd.nd rfl (Or.inl rfl) (pe_op op_mod (pe_callTy call_int1 rfl B.int PyProof.Rows.boot_int (pa_cons (pv 0) pa_nil)) (pv 1)))
  (pss_cons (ps_set (i := 0) scLawGcd.nd rfl (Or.inl rfl) (pv 1))
  (pss_one (ps_set (i := 1) scLawGcd.nd rfl (Or.inl rfl) (pv 3)))))))
  (pss_one (ps_ret (pv 0)))))), ?_⟩
  refine q_asg (v := .int (a : Int)) (ev_is (ev_abs (ev_var rfl)) (by rw [if_neg (by omega)])) fun H1 e1 => ?_
  refine q_asg (v := .int (b : Int)) (ev_is (ev_abs (ev_var rfl)) (by rw [if_neg (by omega)])) fun H2 e2 => ?_
  refine q_forR1 (n := 100000) (ea_cons ev_c ea_nil) ⟨by decide, by decide⟩ (fun i σ' H' => ∃ (x y : Nat) (o o2 : Option V), σ' = [some (.int (x : Int)), some (.int (y : Int)), o, o2] ∧ Nat.gcd x y = Nat.gcd a b ∧ (y = 0 ∨ y + i ≤ b) ∧ Ex H H')
    (fun H3 e3 => ⟨a, b, none, none, rfl, rfl, .inr (Nat.le_refl _), (e1.trans e2).trans e3⟩) ?_ ?_
  · rintro i σ' H' hi ⟨x, y, o, o2, rfl, hg, hy, e3⟩
    refine q_when (et_test (ev_intEq (ev_var rfl) ev_c)) (fun hz H4 e4 => ?_) fun hz H4 e4 => ?_
    · have y0 : y = 0 := by
        have := of_decide_eq_true hz
        omega
      refine s_ret (ev_var rfl) fun H5 e5 => ?_
      have k := q _ ((e3.trans e4).trans e5)
      rw [← hg, y0, Nat.gcd_zero_right] at k
      exact k
    · have y0 : 0 < y := by
        have := of_decide_eq_false hz
        omega
      have hmod : ((x : Int) % (y : Int)) = ((x % y : Nat) : Int) := (Int.natCast_emod x y).symm
      refine q_asg (v := .int ((x % y : Nat) : Int)) (ev_is (ev_mod (ev_int (ev_var rfl)) (ev_var rfl) (by omega)) (by rw [hmod])) fun H5 e5 => ?_
      refine q_asg (ev_var rfl) fun H6 e6 => s_asg (ev_var rfl) fun H7 e7 => ?_
      refine ⟨y, x % y, _, _, rfl, ?_, ?_, (((e3.trans e4).trans e5).trans e6).trans e7⟩
      · rw [← hg, Nat.gcd_comm x y, Nat.gcd_rec y x, Nat.gcd_comm]
      · have := Nat.mod_lt x y0
        omega
  · rintro σ' H' ⟨x, y, o, o2, rfl, hg, hy, e3⟩
    have y0 : y = 0 := by
      rcases hy with hy | hy
      · exact hy
      · have : (100000 : Int).toNat = 100000 := rfl
        omega
    refine s_ret (ev_var rfl) fun H5 e5 => ?_
    have k := q _ (e3.trans e5)
    rw [← hg, y0, Nat.gcd_zero_right] at k
    exact k
end
end Kf

set_option Elab.async false
set_option linter.all false
set_option maxRecDepth 100000
set_option maxHeartbeats 4000000
namespace Kf
open PySem L2 Evl
local macro_rules | `(tactic| walk_at "side") => `(tactic| first | assumption | omega | exact Or.inl ⟨by omega, by omega⟩ | exact Or.inr ⟨by omega, by omega⟩ | exact ⟨by omega, by omega⟩ | exact ⟨by decide, by decide, by decide⟩ | exact sq_of (by assumption) | exact Or.inl (by assumption) | exact Or.inl (sq_of (by assumption)) | rfl | decide)
/-! ### menus, drawn rows, parts -/
abbrev MenuOk (ms : List Int) : Prop := 0 < ms.length ∧ ms.length ≤ 12 ∧ ∀ m ∈ ms, 1 ≤ m ∧ m ≤ 12
def IsMenu (v : V) (H : Hp) : Prop := ∃ q ms, v = .ref q ∧ H q = some (.lst (ms.map V.int)) ∧ MenuOk ms
theorem IsMenu.mo {v : V} {H H' : Hp} (h : IsMenu v H) (e : Ex H H') : IsMenu v H' := by
  obtain ⟨q, ms, a, b, c⟩ := h
  exact ⟨q, ms, a, e _ _ b, c⟩
def AllM (n : Nat) (vs : List V) (H : Hp) : Prop := vs.length = n ∧ ∀ v ∈ vs, IsMenu v H
inductive Pt where
  | is (f g h r m : Int) | not | and | or
def PartAt (K : PySem.W.Frag) (H : Hp) (v : V) : Pt → Prop
  | .is f g h r m => ∃ a b, v = .ref a ∧ SqT K H a [.str "is", .ref b, .int r, .int m] ∧ SqT K H b [.int f, .int g, .int h]
  | .not => ∃ a, v = .ref a ∧ SqT K H a [.str "not"]
  | .and => ∃ a, v = .ref a ∧ SqT K H a [.str "and"]
  | .or => ∃ a, v = .ref a ∧ SqT K H a [.str "or"]
theorem PartAt.mo {K : PySem.W.Frag} {H H' : Hp} {v : V} {p : Pt} (h : PartAt K H v p) (e : Ex H H') : PartAt K H' v p := by
  cases p with
  | is f g h r m => obtain ⟨a, b, x, y, z⟩ := h; exact ⟨a, b, x, ex_t e y, ex_t e z⟩
  | not => obtain ⟨a, x, y⟩ := h; exact ⟨a, x, ex_t e y⟩
  | and => obtain ⟨a, x, y⟩ := h; exact ⟨a, x, ex_t e y⟩
  | or => obtain ⟨a, x, y⟩ := h; exact ⟨a, x, ex_t e y⟩
def spModuli : Sp := fun vs H Q _ => ∃ k : Int, vs = [.int k] ∧ 0 ≤ k ∧ k ≤ 8 ∧ ∀ ms, MenuOk ms → ∀ q H', Ex H H' → H' q = some (.lst (ms.map V.int)) → Q (.ref q) H'
def spGreat : Sp := fun vs H Q _ => ∃ c : Int, vs = [.int c] ∧ ∀ x y z : Int, ∀ q H', Ex H H' → H' q = some (.lst [.int x, .int y, .int z]) → Q (.ref q) H'
/-- the first digits are below these sizes -/
def DigPre (ss ds : List Int) : Prop := ss.length ≤ ds.length ∧ ∀ (i : Nat) s d, ss[i]? = some s → ds[i]? = some d → 0 ≤ d ∧ d < s
theorem DigOk.pre {ss ds : List Int} (h : DigOk ss ds) : DigPre ss ds := ⟨by rw [h.1]; exact Nat.le_refl _, h.2⟩
abbrev leafSizes : List Int := [3, 199, 199, 199, 12, 12, 2]
def spLeaf (K : PySem.W.Frag) : Sp := fun vs H Q _ => ∃ (pd pn pm : Addr) (ds ms : List Int) (x y z : Int), vs = [.ref pd, .ref pn, .ref pm] ∧ SqL K H pd (ds.map V.int) ∧ DigPre leafSizes ds ∧ Sq K H pn [.int x, .int y, .int z] ∧ SqL K H pm (ms.map V.int) ∧ MenuOk ms ∧
  ∀ f g h r m, LeafOk f g h r m → ∀ v H', Ex H H' → PartAt K H' v (.is f g h r m) → Q v H'
theorem DigPre.at {ss ds : List Int} {j : Int} (h : DigPre ss ds) (h0 : 0 ≤ j) (h1 : j < ss.length) : 0 ≤ ds.getD j.toNat 0 ∧ ds.getD j.toNat 0 < ss.getD j.toNat 0 := by
  have hj : j.toNat < ss.length := by omega
  have hd : j.toNat < ds.length := by have := h.1; omega
  have k := h.2 j.toNat ss[j.toNat] ds[j.toNat] (List.getElem?_eq_getElem hj) (List.getElem?_eq_getElem hd)
  rw [List.getD_eq_getElem?_getD, List.getElem?_eq_getElem hd, List.getD_eq_getElem?_getD, List.getElem?_eq_getElem hj]
  exact k
theorem DigOk.at {ss ds : List Int} {j : Int} (h : DigOk ss ds) (h0 : 0 ≤ j) (h1 : j < ss.length) : 0 ≤ ds.getD j.toNat 0 ∧ ds.getD j.toNat 0 < ss.getD j.toNat 0 := h.pre.at h0 h1
section
variable {K : PySem.W.Frag} {σ : L2.St} {H H' : Hp} {ta tb te : TE} {tr : TA} {D : Ends} {tz : TS}
theorem eam_nil : EvAP tNil σ H (AllM 0) := fun H1 _ Q q => q [] H1 (Ex.refl H1) ⟨rfl, fun v h => by simp at h⟩
theorem eam_cons {n : Nat} {xs : List V} (ms : List Int) (h : EvL te σ H xs) (e : xs = ms.map V.int) (ok : MenuOk ms) (hr : EvAP tr σ H (AllM n)) : EvAP (tCons te tr) σ H (AllM (n + 1)) := fun H1 a Q q =>
  h H1 a _ fun p H2 _ a2 h2 => hr H2 (a.trans a2) _ fun vs H3 a3 r => q _ H3 (a2.trans a3) ⟨by rw [List.length_cons, r.1], fun v hv => by
    rcases List.mem_cons.mp hv with rfl | hv
    · exact ⟨p, ms, rfl, by rw [← e]; exact a3 _ _ h2, ok⟩
    · exact r.2 v hv⟩
/-- name = a list of things made on the way -/
theorem q_asgLP {i : Nat} {R : List V → Hp → Prop} (h : EvAP tr σ H R) (hl : ∀ vs H1, R vs H1 → vs.length ≤ 100000) (k : ∀ p vs H1, Ex H H1 → R vs H1 → H1 p = none → tz D (σ.set i (some (.ref p))) (upd H1 p (.lst vs))) : tSeq (tAsg (tLst tr) (gName i)) tz D σ H :=
  h H (Ex.refl H) _ fun vs H1 a r => ⟨sz_of (hl vs H1 r), fun p hp => k p vs H1 a r hp⟩
theorem el_catLL {xs ys : List V} (ha : EvL ta σ H xs) (hb : EvL tb σ H ys) (hz : xs.length + ys.length ≤ 100000) : EvL (tOp rCat ta tb) σ H (xs ++ ys) := fun H1 a Q q =>
  ha H1 a _ fun p H2 hp a2 h2 => hb H2 (a.trans a2) _ fun p' H3 hp' a3 h3 => ⟨p, p', xs, ys, rfl, rfl, a3 _ _ h2, h3, sz_of hz, fun l hl => q l _ (fresh_back (a2.trans a3) hl) ((a2.trans a3).trans (Ex.new hl)) upd_same⟩
theorem el_rep {xs : List V} {k : Int} (ha : EvL ta σ H xs) (hb : Ev tb σ H (.int k)) (h0 : 0 ≤ k) (h1 : k ≤ 100) (hz : xs.length * k.toNat ≤ 100000) : EvL (tOp rRep ta tb) σ H (List.replicate k.toNat xs).flatten := fun H1 a Q q =>
  ha H1 a _ fun p H2 hp a2 h2 => hb H2 (a.trans a2) _ fun H3 a3 => ⟨p, k, xs, rfl, rfl, a3 _ _ h2, by omega, by omega, sz_of hz, fun l hl => q l _ (fresh_back (a2.trans a3) hl) ((a2.trans a3).trans (Ex.new hl)) upd_same⟩
theorem evp_tupP {R : List V → Hp → Prop} (h : EvAP tr σ H R) (hl : ∀ vs H1, R vs H1 → vs.length ≤ 100000) : EvP (tTup tr) σ H fun v H1 => ∃ p vs H0, v = .ref p ∧ H1 p = some (.tup vs) ∧ Ex H0 H1 ∧ R vs H0 := fun H1 a Q q =>
  h H1 a _ fun vs H2 a2 r => ⟨sz_of (hl vs H2 r), fun p hp => q _ _ (a2.trans (Ex.new hp)) ⟨p, vs, H2, rfl, upd_same, Ex.new hp, r⟩⟩
/-- a written list at a drawn place -/
theorem ev_pick {xs : List Int} {ys : List V} {i : Int} (ha : EvL ta σ H ys) (e : ys = xs.map V.int) (hb : Ev tb σ H (.int i)) (h0 : 0 ≤ i) (h1 : i < xs.length) : Ev (tOp (rIxL K) ta tb) σ H (.int (xs.getD i.toNat 0)) :=
  ev_opL1 ha (fun H1 a => hb.mono a) fun p H1 hp _ => by
    rw [e] at hp
    exact rv_ixL (sq_of hp) (atI_ints h0 h1)
theorem getD_mem {l : List Int} {i : Int} (h0 : 0 ≤ i) (h : i < l.length) : l.getD i.toNat 0 ∈ l := by
  have hi : i.toNat < l.length := by omega
  rw [List.getD_eq_getElem?_getD, List.getElem?_eq_getElem hi]
  exact List.getElem_mem hi
theorem sv_digits {c : Int} {p : Addr} {ss : List Int} (h : SqL K H p (ss.map V.int)) (hs : ∀ s ∈ ss, 1 ≤ s ∧ s ≤ 1000000001) (hl : ss.length ≤ 1000) :
    SpP (spDigits K) [.int c, .ref p] H fun v H1 => ∃ q ds, v = .ref q ∧ DigOk ss ds ∧ H1 q = some (.lst (ds.map V.int)) := fun H1 e Q k E => ⟨c, p, ss, rfl, ex_l e h, hs, hl, fun ds ok q H2 e2 h2 => k _ _ e2 ⟨q, ds, rfl, ok, h2⟩⟩
theorem sv_cell {l : Addr} {k : Nat} {ns : List Int} (h : SqL K H l (ns.map V.int)) (hk : k ≤ 100) : SpP (spCell K) [.ref l, .int (k : Int)] H fun v _ => ∃ c : Int, v = .int c := fun H1 e Q q E => ⟨l, k, ns, rfl, ex_l e h, hk, fun c H2 e2 => q _ _ e2 ⟨c, rfl⟩⟩
theorem sv_moduli {k : Int} (h0 : 0 ≤ k) (h1 : k ≤ 8) : SpP spModuli [.int k] H IsMenu := fun H1 e Q q E => ⟨k, rfl, h0, h1, fun ms ok p H2 e2 h2 => q _ _ e2 ⟨p, ms, rfl, h2, ok⟩⟩
def IsRow3 (v : V) (H : Hp) : Prop := ∃ q x y z, v = .ref q ∧ H q = some (.lst [.int x, .int y, .int z])
theorem sv_great {c : Int} : SpP spGreat [.int c] H IsRow3 := fun H1 e Q q E => ⟨c, rfl, fun x y z p H2 e2 h2 => q _ _ e2 ⟨p, x, y, z, rfl, h2⟩⟩
def IsLeaf (K : PySem.W.Frag) (v : V) (H : Hp) : Prop := ∃ f g h r m, LeafOk f g h r m ∧ PartAt K H v (.is f g h r m)
theorem sv_leaf {pd pn pm : Addr} {ds ms : List Int} {x y z : Int} (h1 : SqL K H pd (ds.map V.int)) (ok : DigPre leafSizes ds) (h2 : Sq K H pn [.int x, .int y, .int z]) (h3 : SqL K H pm (ms.map V.int)) (om : MenuOk ms) : SpP (spLeaf K) [.ref pd, .ref pn, .ref pm] H (IsLeaf K) :=
  fun H1 e Q q E => ⟨pd, pn, pm, ds, ms, x, y, z, rfl, ex_l e h1, ok, h2.ex e, ex_l e h3, om, fun f g h r m lo v H2 e2 hp => q _ _ e2 ⟨f, g, h, r, m, lo, hp⟩⟩
theorem sv_gcd {a b : Nat} (hb : b < 100000) : SpV spGcd [.int (a : Int), .int (b : Int)] H (.int ((Nat.gcd a b : Nat) : Int)) := fun H1 e Q q E => ⟨a, b, rfl, hb, q⟩
/-- a call of digits upon a list made on the way -/
theorem evp_digits {E : XK} {c : Int} {xs : List V} (ss : List Int) (ha : Ev ta σ H (.int c)) (hb : EvL tb σ H xs) (e : xs = ss.map V.int) (hs : ∀ s ∈ ss, 1 ≤ s ∧ s ≤ 1000000001) (hl : ss.length ≤ 1000) :
    EvP (tCall (spDigits K) [] E (tCons ta (tCons tb tNil))) σ H fun v H1 => ∃ q ds, v = .ref q ∧ DigOk ss ds ∧ H1 q = some (.lst (ds.map V.int)) := by
  subst e
  refine evp_callP (R := fun vs H1 => ∃ p, vs = [.int c, .ref p] ∧ H1 p = some (.lst (ss.map V.int))) ?_ fun vs H1 e1 hv => ?_
  · refine eap_cons (P := fun v _ => v = .int c) (evp_ev ha fun _ _ => rfl) fun v H1 e1 hv => ?_
    subst hv
    refine eap_cons (P := IsL (ss.map V.int)) (evp_L (hb.mono e1) fun p H2 _ h2 => ⟨p, rfl, h2⟩) fun v H2 e2 hv => ?_
    obtain ⟨p, rfl, hp⟩ := hv
    exact fun H3 e3 Q q => q [] H3 (Ex.refl H3) ⟨p, rfl, e3 _ _ hp⟩
  · obtain ⟨p, rfl, hp⟩ := hv
    exact sv_digits (sq_of hp) hs hl
end
section
variable {P : Program} {w : World} {K : PySem.W.Frag} {mg : Str → Option Value} {base : Heap} {H : Hp}
abbrev sLawModuli : Stmt := top 31
theorem scLawModuli : FnScope ["kind", "lists"] ["kind"] (defScope sLawModuli) := ⟨rfl, rfl, rfl, by decide +kernel, rfl, by decide +kernel, by decide +kernel⟩
abbrev sLawGreatRow : Stmt := top 32
theorem scLawGreatRow : FnScope ["cell", "digits", "row", "k", "small", "great", "number"] ["cell"] (defScope sLawGreatRow) := ⟨rfl, rfl, rfl, by decide +kernel, rfl, by decide +kernel, by decide +kernel⟩
abbrev sLawLeaf : Stmt := top 33
theorem scLawLeaf : FnScope ["digits", "near", "menu", "factors", "k", "number", "many", "rest"] ["digits", "near", "menu"] (defScope sLawLeaf) := ⟨rfl, rfl, rfl, by decide +kernel, rfl, by decide +kernel, by decide +kernel⟩
theorem df_moduli (S : At K mg "_law_moduli" sLawModuli ["kind"]) : Df P w K mg base CX0 "_law_moduli" 1 ["kind"] spModuli := by
  obtain ⟨f, fd, F, m, b⟩ := S
  refine ⟨f, fd, m, F.kp, b, F.ok scLawModuli (fun vs H Q E h => ?_) (fun cdv A outer s H vs Q E hr h => ?_)⟩
  · obtain ⟨k, rfl, _⟩ := h
    rfl
  obtain ⟨k, rfl, k0, k1, q⟩ := h
  refine ⟨_, (pss_cons (ps_set (i := 1) scLawModuli.nd rfl (Or.inl rfl) (pe_lst (pa_cons (pe_lst (pa_cons pe_int (pa_cons pe_int (pa_cons pe_int (pa_cons pe_int pa_nil))))) (pa_cons (pe_lst (pa_cons pe_int (pa_cons pe_int (pa_cons pe_int (pa_cons pe_int pa_nil))))) (pa_cons (pe_lst (pa_cons pe_int (pa_cons pe_int (pa_cons pe_int (pa_cons pe_int pa_nil))))) (pa_cons (pe_lst (pa_cons pe_int (pa_cons pe_int (pa_cons pe_int (pa_cons pe_int pa_nil))))) (pa_cons (pe_lst (pa_cons pe_int (pa_cons pe_int (pa_cons pe_int (pa_cons pe_int pa_nil))))) (pa_cons (pe_lst (pa_cons pe_int (pa_cons pe_int (pa_cons pe_int (pa_cons pe_int pa_nil))))) (pa_cons (pe_lst (pa_cons pe_int (pa_cons pe_int (pa_cons pe_int (pa_cons pe_int pa_nil))))) pa_nil)))))))))
  (pss_cons (ps_expr (pe_bm PySem.F.plainAttrs_list PySem.F.slot_list_append PySem.F.type_list_append mt_append (pv 1) (pa_cons (pe_lst (pa_cons pe_int (pa_cons pe_int (pa_cons pe_int (pa_cons pe_int pa_nil))))) pa_nil)))
  (pss_cons (ps_expr (pe_bm PySem.F.plainAttrs_list PySem.F.slot_list_append PySem.F.type_list_append mt_append (pv 1) (pa_cons (pe_lst (pa_cons pe_int (pa_cons pe_int (pa_cons pe_int (pa_cons pe_int (pa_cons pe_int (pa_cons pe_int (pa_cons pe_int (pa_cons pe_int (pa_cons pe_int (pa_cons pe_int (pa_cons pe_int (pa_cons pe_int pa_nil))))))))))))) pa_nil)))
  (pss_one (ps_ret (pe_ix ix_list (pv 1) (pv 0) (fun _ _ => rfl))))))), ?_⟩
  have four : ∀ {σ : L2.St} {H : Hp} {a b c d : V}, EvL (tLst (tCons (tC a) (tCons (tC b) (tCons (tC c) (tCons (tC d) tNil))))) σ H [a, b, c, d] := fun {σ H a b c d} => el_lst (ea_cons ev_c (ea_cons ev_c (ea_cons ev_c (ea_cons ev_c ea_nil)))) (by show 4 ≤ 100000; decide)
  refine q_asgLP (eam_cons [1, 2, 3, 4] four rfl (by decide) (eam_cons [8, 2, 4, 1] four rfl (by decide) (eam_cons [5, 10, 2, 1] four rfl (by decide) (eam_cons [3, 9, 1, 9] four rfl (by decide) (eam_cons [6, 12, 4, 3] four rfl (by decide) (eam_cons [7, 1, 7, 7] four rfl (by decide) (eam_cons [11, 1, 11, 11] four rfl (by decide) eam_nil)))))))
    (fun vs H1 r => by rw [r.1]; decide) fun p vs H1 e1 r hp => ?_
  have x1 : Ex H1 (upd H1 p (.lst vs)) := Ex.new hp
  refine q_appL upd_same (ev_var rfl) four (by rw [r.1]; decide) fun p1 H2 hp1 e2 h2 => ?_
  have ne1 : p1 ≠ p := fun z => by rw [z, upd_same] at hp1; cases hp1
  have x2 : Ex H1 (upd H2 p (.lst (vs ++ [V.ref p1]))) := Ex.mut (x1.trans e2) hp
  refine q_appL upd_same (ev_var rfl) (xs := vs ++ [V.ref p1]) (el_lst (ea_cons ev_c (ea_cons ev_c (ea_cons ev_c (ea_cons ev_c (ea_cons ev_c (ea_cons ev_c (ea_cons ev_c (ea_cons ev_c (ea_cons ev_c (ea_cons ev_c (ea_cons ev_c (ea_cons ev_c ea_nil)))))))))))) (by show 12 ≤ 100000; decide)) (by rw [List.length_append, r.1]; show 7 + 1 < 100000; decide) fun p2 H3 hp2 e3 h3 => ?_
  have ne2 : p2 ≠ p := fun z => by rw [z, upd_same] at hp2; cases hp2
  have x3 : Ex H1 (upd H3 p (.lst ((vs ++ [V.ref p1]) ++ [V.ref p2]))) := Ex.mut (x2.trans e3) hp
  have all : ∀ v ∈ (vs ++ [V.ref p1]) ++ [V.ref p2], IsMenu v (upd H3 p (.lst ((vs ++ [V.ref p1]) ++ [V.ref p2]))) := fun v hv => by
    rcases List.mem_append.mp hv with hv | hv
    · rcases List.mem_append.mp hv with hv | hv
      · exact (r.2 v hv).mo x3
      · have e : v = .ref p1 := by simpa using hv
        subst e
        refine ⟨p1, [12, 6, 2, 3], rfl, ?_, by decide⟩
        rw [upd_ne ne1]
        refine e3 _ _ ?_
        rw [upd_ne ne1]
        exact h2
    · have e : v = .ref p2 := by simpa using hv
      subst e
      refine ⟨p2, [1, 2, 3, 4, 5, 6, 7, 8, 9, 10, 11, 12], rfl, ?_, by decide⟩
      rw [upd_ne ne2]
      exact h3
  have ln : ((vs ++ [V.ref p1]) ++ [V.ref p2]).length = 9 := by rw [List.length_append, List.length_append, r.1] <;> rfl
  refine s_ret (v := ((vs ++ [V.ref p1]) ++ [V.ref p2]).getD k.toNat .non) (ev_op (ev_var rfl) (ev_var rfl) (rv_ixL (sq_of upd_same) (atI_getD k0 (by rw [ln]; omega)))) fun H4 e4 => ?_
  have hk : k.toNat < ((vs ++ [V.ref p1]) ++ [V.ref p2]).length := by rw [ln]; omega
  have mem : ((vs ++ [V.ref p1]) ++ [V.ref p2]).getD k.toNat .non ∈ (vs ++ [V.ref p1]) ++ [V.ref p2] := by
    rw [List.getD_eq_getElem?_getD, List.getElem?_eq_getElem hk]
    exact List.getElem_mem hk
  obtain ⟨qa, ms, e, hq, om⟩ := all _ mem
  rw [e]
  exact q ms om qa _ ((e1.trans x3).trans e4) (e4 _ _ hq)
theorem df_great (DLawDigits : Df P w K mg base CX0 "_law_digits" 1 ["cell", "sizes"] (spDigits K)) (B : Bi mg) (S : At K mg "_law_great_row" sLawGreatRow ["cell"]) : Df P w K mg base CX0 "_law_great_row" 2 ["cell"] spGreat := by
  obtain ⟨f, fd, F, m, b⟩ := S
  refine ⟨f, fd, m, F.kp, b, F.ok scLawGreatRow (fun vs H Q E h => ?_) (fun cdv A outer s H vs Q E hr h => ?_)⟩
  · obtain ⟨c, rfl, _⟩ := h
    rfl
  obtain ⟨c, rfl, q⟩ := h
  refine ⟨_, (pss_cons (ps_set (i := 1) scLawGreatRow.nd rfl (Or.inl rfl) (pe_df DLawDigits hr pass0 (pa_cons (pv 0) (pa_cons (pe_op op_cat (pe_lst (pa_cons pe_int pa_nil)) (pe_op op_rep (pe_lst (pa_cons pe_int (pa_cons pe_int (pa_cons pe_int pa_nil)))) pe_int)) pa_nil))))
  (pss_cons (ps_set (i := 2) scLawGreatRow.nd rfl (Or.inl rfl) (pe_lst pa_nil))
  (pss_cons (ps_for PassesOwn.never rfl (pi_range1 rfl B.range (pa_cons pe_int pa_nil)) (pg_name (i := 3) scLawGreatRow.nd rfl (Or.inl rfl)) (pss_cons (ps_set (i := 4) scLawGreatRow.nd rfl (Or.inl rfl) (pe_ix ix_list (pv 1) (pe_op op_add pe_int (pe_op op_mul pe_int (pv 3))) (fun _ _ => rfl)))
  (pss_cons (ps_set (i := 5) scLawGreatRow.nd rfl (Or.inl rfl) (pe_ix ix_list (pv 1) (pe_op op_add pe_int (pe_op op_mul pe_int (pv 3))) (fun _ _ => rfl)))
  (pss_cons (ps_set (i := 6) scLawGreatRow.nd rfl (Or.inl rfl) (pe_ix ix_list (pe_lst (pa_cons (pv 4) (pa_cons (pv 5) (pa_cons (pe_op op_add (pe_op op_mul (pv 5) pe_int) (pv 4)) pa_nil)))) (pe_ix ix_list (pv 1) pe_int (fun _ _ => rfl)) (fun _ _ => rfl)))
  (pss_one (ps_expr (pe_bm PySem.F.plainAttrs_list PySem.F.slot_list_append PySem.F.type_list_append mt_append (pv 2) (pa_cons (pe_op op_sub (pv 6) (pe_op op_mul (pe_op op_mul pe_int (pv 6)) (pe_ix ix_list (pv 1) (pe_op op_add pe_int (pe_op op_mul pe_int (pv 3))) (fun _ _ => rfl)))) pa_nil))))))))
  (pss_one (ps_ret (pv 2)))))), ?_⟩
  refine q_asgP (evp_digits [3, 2, 21, 1000000001, 2, 21, 1000000001, 2, 21, 1000000001] (ev_var rfl) (el_catLL (el_lst (ea_cons ev_c ea_nil) (by show 1 ≤ 100000; decide)) (el_rep (el_lst (ea_cons ev_c (ea_cons ev_c (ea_cons ev_c ea_nil))) (by show 3 ≤ 100000; decide)) ev_c (by decide) (by decide) (by show 3 * 3 ≤ 100000; decide)) (by show 1 + 9 ≤ 100000; decide)) rfl (by decide) (by decide)) fun v H1 e1 hv => ?_
  obtain ⟨pd, ds, rfl, ok, hd⟩ := hv
  have dl : ds.length = 10 := ok.1
  refine q_asgL (el_lst ea_nil (Nat.zero_le _)) fun r H2 hr0 e2 hr2 => ?_
  have hr00 : H r = none := fresh_back e1 hr0
  have hd2 := e2 _ _ hd
  refine q_forR1 (n := 3) (ea_cons ev_c ea_nil) ⟨by decide, by decide⟩ (fun i σ' H' => ∃ (o1 o2 o3 o4 : Option V) (ns : List Int), σ' = [some (.int c), some (.ref pd), some (.ref r), o1, o2, o3, o4] ∧ H' r = some (.lst (ns.map V.int)) ∧ ns.length = i ∧ Ex H1 H')
    (fun H3 e3 => ⟨none, none, none, none, [], rfl, e3 _ _ hr2, rfl, e2.trans e3⟩) ?_ ?_
  · rintro i σ' H' hi ⟨o1, o2, o3, o4, ns, rfl, hr3, hn, e3⟩
    have hdq : SqL K H' pd (ds.map V.int) := sq_of (e3 _ _ hd)
    have b0 := ok.at (j := 0) (by decide) (by decide)
    have b1 : 0 ≤ ds.getD (2 + 3 * (i : Int)).toNat 0 ∧ ds.getD (2 + 3 * (i : Int)).toNat 0 < 21 := by
      have k := ok.at (j := 2 + 3 * (i : Int)) (by omega) (by show 2 + 3 * (i : Int) < 10; omega)
      have hi' : i = 0 ∨ i = 1 ∨ i = 2 := by omega
      rcases hi' with rfl | rfl | rfl <;> exact k
    have b2 : 0 ≤ ds.getD (3 + 3 * (i : Int)).toNat 0 ∧ ds.getD (3 + 3 * (i : Int)).toNat 0 < 1000000001 := by
      have k := ok.at (j := 3 + 3 * (i : Int)) (by omega) (by show 3 + 3 * (i : Int) < 10; omega)
      have hi' : i = 0 ∨ i = 1 ∨ i = 2 := by omega
      rcases hi' with rfl | rfl | rfl <;> exact k
    refine q_asg (ev_op (ev_var rfl) (ev_op ev_c (ev_mul ev_c (ev_var rfl) (.inl ⟨by decide, by decide⟩)) rv_I0) (rv_ixL hdq (atI_ints (by omega) (by rw [dl]; omega)))) fun H4 e4 => ?_
    refine q_asg (ev_op (ev_var rfl) (ev_op ev_c (ev_mul ev_c (ev_var rfl) (.inl ⟨by decide, by decide⟩)) rv_I0) (rv_ixL (ex_l e4 hdq) (atI_ints (by omega) (by rw [dl]; omega)))) fun H5 e5 => ?_
    generalize ds.getD (2 + 3 * (i : Int)).toNat 0 = sm at b1 ⊢
    generalize ds.getD (3 + 3 * (i : Int)).toNat 0 = gr at b2 ⊢
    have hdq5 := ex_l (e4.trans e5) hdq
    refine q_asg (ev_pick (xs := [sm, gr, gr * 1000000007 + sm]) (el_lst (ea_cons (ev_var rfl) (ea_cons (ev_var rfl) (ea_cons (ev_op (ev_mul (ev_var rfl) ev_c (by walk_at "side")) (ev_var rfl) rv_I0) ea_nil))) (by show 3 ≤ 100000; decide)) rfl (ev_op (ev_var rfl) ev_c (rv_ixL hdq5 (atI_ints (by decide) (by rw [dl]; decide)))) b0.1 b0.2) fun H6 e6 => ?_
    have b3 : 0 ≤ ([sm, gr, gr * 1000000007 + sm] : List Int).getD (ds.getD (0 : Int).toNat 0).toNat 0 ∧ ([sm, gr, gr * 1000000007 + sm] : List Int).getD (ds.getD (0 : Int).toNat 0).toNat 0 < 2000000000000000000 := by
      have k := getD_mem (l := [sm, gr, gr * 1000000007 + sm]) b0.1 b0.2
      simp only [List.mem_cons, List.not_mem_nil, or_false] at k
      omega
    generalize ([sm, gr, gr * 1000000007 + sm] : List Int).getD (ds.getD (0 : Int).toNat 0).toNat 0 = nu at b3 ⊢
    have hdq6 := ex_l e6 hdq5
    refine s_app (e6 _ _ (e5 _ _ (e4 _ _ hr3))) (ev_var rfl) (ev_op (ev_var rfl) (ev_mul (ev_mul ev_c (ev_var rfl) (.inl ⟨by decide, by decide⟩)) (ev_op (ev_var rfl) (ev_op ev_c (ev_mul ev_c (ev_var rfl) (.inl ⟨by decide, by decide⟩)) rv_I0) (rv_ixL hdq6 (atI_ints (by omega) (by rw [dl]; omega)))) (by walk_at "side")) rv_I0) (by rw [List.length_map]; omega) fun H7 e7 => ?_
    refine ⟨_, _, _, _, ns ++ [nu - 2 * nu * ds.getD (1 + 3 * (i : Int)).toNat 0], rfl, ?_, by rw [List.length_append, hn] <;> rfl, Ex.mut ((((e3.trans e4).trans e5).trans e6).trans e7) hr0⟩
    rw [List.map_append]
    exact upd_same
  · rintro σ' H' ⟨o1, o2, o3, o4, ns, rfl, hr3, hn, e3⟩
    have h3 : (3 : Int).toNat = 3 := rfl
    rw [h3] at hn
    match ns, hn with
    | [x, y, z], _ => exact s_ret (ev_var rfl) fun H4 e4 => q x y z r _ ((e1.trans e3).trans e4) (e4 _ _ hr3)
theorem df_leaf (DLawDot : Df P w K mg base CX0 "_law_dot" 1 ["one", "two"] (spDot K)) (B : Bi mg) (S : At K mg "_law_leaf" sLawLeaf ["digits", "near", "menu"]) : Df P w K mg base CX0 "_law_leaf" 2 ["digits", "near", "menu"] (spLeaf K) := by
  obtain ⟨f, fd, F, m, b⟩ := S
  refine ⟨f, fd, m, F.kp, b, F.ok scLawLeaf (fun vs H Q E h => ?_) (fun cdv A outer s H vs Q E hr h => ?_)⟩
  · obtain ⟨pd, pn, pm, ds, ms, x, y, z, rfl, _⟩ := h
    rfl
  obtain ⟨pd, pn, pm, ds, ms, x, y, z, rfl, hd, ok, hn, hm, om, q⟩ := h
  refine ⟨_, (pss_cons (ps_set (i := 3) scLawLeaf.nd rfl (Or.inl rfl) (pe_lst pa_nil))
  (pss_cons (ps_for PassesOwn.never rfl (pi_range1 rfl B.range (pa_cons pe_int pa_nil)) (pg_name (i := 4) scLawLeaf.nd rfl (Or.inl rfl)) (pss_cons (ps_set (i := 5) scLawLeaf.nd rfl (Or.inl rfl) (pe_ix ix_list (pv 0) (pe_op op_add pe_int (pv 4)) (fun _ _ => rfl)))
  (pss_one (ps_expr (pe_bm PySem.F.plainAttrs_list PySem.F.slot_list_append PySem.F.type_list_append mt_append (pv 3) (pa_cons (pe_ix ix_list (pe_lst (pa_cons (pe_op op_sub (pv 5) pe_int) (pa_cons (pe_op op_sub (pe_op op_mod (pe_callTy call_int1 rfl B.int PyProof.Rows.boot_int (pa_cons (pv 5) pa_nil)) pe_int) pe_int) (pa_cons (pe_ix ix_list (pe_lst (pa_cons pe_int (pa_cons pe_int (pa_cons (pe_un un_neg pe_int) (pa_cons pe_int (pa_cons (pe_un un_neg pe_int) pa_nil)))))) (pe_op op_mod (pe_callTy call_int1 rfl B.int PyProof.Rows.boot_int (pa_cons (pv 5) pa_nil)) pe_int) (fun _ _ => rfl)) pa_nil)))) (pe_ix ix_list (pv 0) pe_int (fun _ _ => rfl)) (fun _ _ => rfl)) pa_nil))))))
  (pss_cons (ps_set (i := 6) scLawLeaf.nd rfl (Or.inl rfl) (pe_ix ix_list (pv 2) (pe_op op_mod (pe_callTy call_int1 rfl B.int PyProof.Rows.boot_int (pa_cons (pe_ix ix_list (pv 0) pe_int (fun _ _ => rfl)) pa_nil)) (pe_callB call_len_seq rfl B.len PySem.boot_len (pa_cons (pv 2) pa_nil))) (fun _ _ => rfl)))
  (pss_cons (ps_set (i := 7) scLawLeaf.nd rfl (Or.inl rfl) (pe_op op_mod (pe_callTy call_int1 rfl B.int PyProof.Rows.boot_int (pa_cons (pe_ix ix_list (pv 0) pe_int (fun _ _ => rfl)) pa_nil)) (pv 6)))
  (pss_cons (ps_if (pt_cmpR op_eq (pe_ix ix_list (pv 0) pe_int (fun _ _ => rfl)) pe_int (nomark _)) (pss_one (ps_set (i := 7) scLawLeaf.nd rfl (Or.inl rfl) (pe_op op_mod (pe_callTy call_int1 rfl B.int PyProof.Rows.boot_int (pa_cons (pe_df DLawDot hr pass0 (pa_cons (pv 3) (pa_cons (pv 1) pa_nil))) pa_nil)) (pv 6)))) pss_nil)
  (pss_one (ps_ret (pe_tup (pa_cons pe_str (pa_cons (pe_tup (pa_cons (pe_ix ix_list (pv 3) pe_int (fun _ _ => rfl)) (pa_cons (pe_ix ix_list (pv 3) pe_int (fun _ _ => rfl)) (pa_cons (pe_ix ix_list (pv 3) pe_int (fun _ _ => rfl)) pa_nil)))) (pa_cons (pv 7) (pa_cons (pv 6) pa_nil)))))))))))), ?_⟩
  have dl : (7 : Nat) ≤ ds.length := ok.1
  have b0 := ok.at (j := 0) (by decide) (by decide)
  have b4 := ok.at (j := 4) (by decide) (by decide)
  have b5 := ok.at (j := 5) (by decide) (by decide)
  refine q_asgL (el_lst ea_nil (Nat.zero_le _)) fun r H1 hr0 e1 hr1 => ?_
  refine q_forR1 (n := 3) (ea_cons ev_c ea_nil) ⟨by decide, by decide⟩ (fun i σ' H' => ∃ (o1 o2 : Option V) (fs : List Int), σ' = [some (.ref pd), some (.ref pn), some (.ref pm), some (.ref r), o1, o2, none, none] ∧ H' r = some (.lst (fs.map V.int)) ∧ fs.length = i ∧ (∀ f ∈ fs, -99 ≤ f ∧ f ≤ 99) ∧ Ex H H')
    (fun H3 e3 => ⟨none, none, [], rfl, e3 _ _ hr1, rfl, fun f h => by simp at h, e1.trans e3⟩) ?_ ?_
  · rintro i σ' H' hi ⟨o1, o2, fs, rfl, hr3, hfn, hfs, e3⟩
    have hdq := ex_l e3 hd
    have b1 : 0 ≤ ds.getD (1 + (i : Int)).toNat 0 ∧ ds.getD (1 + (i : Int)).toNat 0 < 199 := by
      have k := ok.at (j := 1 + (i : Int)) (by omega) (by show 1 + (i : Int) < 7; omega)
      have hi' : i = 0 ∨ i = 1 ∨ i = 2 := by omega
      rcases hi' with rfl | rfl | rfl <;> exact k
    refine q_asg (ev_op (ev_var rfl) (ev_op ev_c (ev_var rfl) rv_I0) (rv_ixL hdq (atI_ints (by omega) (by omega)))) fun H4 e4 => ?_
    generalize ds.getD (1 + (i : Int)).toNat 0 = nu at b1 ⊢
    have hdq4 := ex_l e4 hdq
    have c0 : 0 ≤ nu % 5 := Int.emod_nonneg _ (by decide)
    have c1 : nu % 5 < 5 := Int.emod_lt_of_pos _ (by decide)
    have c2 := getD_mem (l := [0, 99, -99, 1, -1]) c0 c1
    have k2 := getD_mem (l := [nu - 99, nu % 5 - 2, ([0, 99, -99, 1, -1] : List Int).getD (nu % 5).toNat 0]) b0.1 b0.2
    have b3 : -99 ≤ ([nu - 99, nu % 5 - 2, ([0, 99, -99, 1, -1] : List Int).getD (nu % 5).toNat 0] : List Int).getD (ds.getD (0 : Int).toNat 0).toNat 0 ∧ ([nu - 99, nu % 5 - 2, ([0, 99, -99, 1, -1] : List Int).getD (nu % 5).toNat 0] : List Int).getD (ds.getD (0 : Int).toNat 0).toNat 0 ≤ 99 := by
      simp only [List.mem_cons, List.not_mem_nil, or_false] at k2 c2
      omega
    refine s_app (e4 _ _ hr3) (ev_var rfl) (ev_pick (xs := [nu - 99, nu % 5 - 2, ([0, 99, -99, 1, -1] : List Int).getD (nu % 5).toNat 0]) (el_lst (ea_cons (ev_op (ev_var rfl) ev_c rv_I0) (ea_cons (ev_op (ev_mod (ev_int (ev_var rfl)) ev_c (by decide)) ev_c rv_I0)
      (ea_cons (ev_pick (xs := [0, 99, -99, 1, -1]) (el_lst (ea_cons ev_c (ea_cons ev_c (ea_cons (ev_un ev_c ru_neg) (ea_cons ev_c (ea_cons (ev_un ev_c ru_neg) ea_nil))))) (by show 5 ≤ 100000; decide)) rfl (ev_mod (ev_int (ev_var rfl)) ev_c (by decide)) c0 c1) ea_nil))) (by show 3 ≤ 100000; decide)) rfl
      (ev_op (ev_var rfl) ev_c (rv_ixL hdq4 (atI_ints (by decide) (by omega)))) b0.1 b0.2) (by rw [List.length_map]; omega) fun H5 e5 => ?_
    refine ⟨_, _, fs ++ [([nu - 99, nu % 5 - 2, ([0, 99, -99, 1, -1] : List Int).getD (nu % 5).toNat 0] : List Int).getD (ds.getD (0 : Int).toNat 0).toNat 0], rfl, ?_, by rw [List.length_append, hfn] <;> rfl, fun f hf => ?_, Ex.mut ((e3.trans e4).trans e5) hr0⟩
    · rw [List.map_append]
      exact upd_same
    · rcases List.mem_append.mp hf with hf | hf
      · exact hfs f hf
      · have e : f = _ := List.mem_singleton.mp hf
        rw [e]
        exact b3
  · rintro σ' H' ⟨o1, o2, fs, rfl, hr3, hfn, hfs, e3⟩
    have h3 : (3 : Int).toNat = 3 := rfl
    rw [h3] at hfn
    match fs, hfn with
    | [f, g, h], _ =>
      have f0 := hfs f List.mem_cons_self
      have g0 := hfs g (List.mem_cons_of_mem _ List.mem_cons_self)
      have h0 := hfs h (List.mem_cons_of_mem _ (List.mem_cons_of_mem _ List.mem_cons_self))
      have hdq := ex_l e3 hd
      have hmq := ex_l e3 hm
      have m0 : 0 < (ms.length : Int) := by have := om.1; omega
      have i0 : 0 ≤ ds.getD (4 : Int).toNat 0 % (ms.length : Int) := Int.emod_nonneg _ (by omega)
      have i1 : ds.getD (4 : Int).toNat 0 % (ms.length : Int) < (ms.length : Int) := Int.emod_lt_of_pos _ m0
      have mm := om.2.2 _ (getD_mem i0 i1)
      refine q_asg (ev_op (ev_var rfl) (ev_mod (ev_int (ev_op (ev_var rfl) ev_c (rv_ixL hdq (atI_ints (by decide) (by omega))))) (ev_is (ev_lenQ (ev_var rfl) (.inl hmq)) (by rw [List.length_map])) m0) (rv_ixL hmq (atI_ints i0 i1))) fun H4 e4 => ?_
      generalize ms.getD (ds.getD (4 : Int).toNat 0 % (ms.length : Int)).toNat 0 = mo at mm ⊢
      have hdq4 := ex_l e4 hdq
      refine q_asg (ev_mod (ev_int (ev_op (ev_var rfl) ev_c (rv_ixL hdq4 (atI_ints (by decide) (by omega))))) (ev_var rfl) (by omega)) fun H5 e5 => ?_
      have hdq5 := ex_l e5 hdq4
      have hr5 := e5 _ _ (e4 _ _ hr3)
      have fin : ∀ (re : Int) (H6 : Hp), Ex H5 H6 → 0 ≤ re ∧ re ≤ mo - 1 → tRet (tTup (tCons (tC (V.str "is")) (tCons (tTup (tCons (tOp (rIxL K) (tVar 3) (tC (.int 0))) (tCons (tOp (rIxL K) (tVar 3) (tC (.int 1))) (tCons (tOp (rIxL K) (tVar 3) (tC (.int 2))) tNil)))) (tCons (tVar 7) (tCons (tVar 6) tNil))))) { nx := fun _ H' => Q .non H', rt := Q } [some (.ref pd), some (.ref pn), some (.ref pm), some (.ref r), o1, o2, some (.int mo), some (.int re)] H6 := fun re H6 e6 hre => by
        have hr6 : SqL K H6 r ([.int f, .int g, .int h] : List V) := sq_of (e6 _ _ hr5)
        refine s_retP (evp_tupP (R := fun vs H7 => ∃ b, vs = [.str "is", .ref b, .int re, .int mo] ∧ H7 b = some (.tup [.int f, .int g, .int h])) ?_ fun vs H7 hv => ?_) fun v H7 e7 hv => ?_
        · refine eap_cons (P := fun v _ => v = .str "is") (evp_ev ev_c fun _ _ => rfl) fun v H7 e7 hv => ?_
          subst hv
          refine eap_cons (P := IsU [.int f, .int g, .int h]) (evp_U (eu_tup (ea_cons (ev_op (ev_var rfl) ev_c (rv_ixL (ex_l e7 hr6) rfl)) (ea_cons (ev_op (ev_var rfl) ev_c (rv_ixL (ex_l e7 hr6) rfl)) (ea_cons (ev_op (ev_var rfl) ev_c (rv_ixL (ex_l e7 hr6) rfl)) ea_nil))) (by show 3 ≤ 100000; decide)) fun p H8 _ h8 => ⟨p, rfl, h8⟩) fun v H8 e8 hv => ?_
          obtain ⟨b, rfl, hb⟩ := hv
          exact fun H9 e9 Q' q' => ⟨_, rfl, _, rfl, q' [.int re, .int mo] H9 (Ex.refl H9) ⟨b, rfl, e9 _ _ hb⟩⟩
        · obtain ⟨b, rfl, _⟩ := hv
          show 4 ≤ 100000
          decide
        · obtain ⟨p, vs, H0, rfl, hp, e0, b, rfl, hb⟩ := hv
          exact q f g h re mo ⟨f0, g0, h0, mm, hre⟩ _ _ (((((e3.trans e4).trans e5).trans e6).trans e7)) ⟨p, b, rfl, st_of hp, st_of (e0 _ _ hb)⟩
      refine q_when (et_test (ev_intEq (ev_op (ev_var rfl) ev_c (rv_ixL hdq5 (atI_ints (by decide) (by omega)))) ev_c)) (fun hb H6 e6 => ?_) fun hb H6 e6 => ?_
      · have hr6 := e6 _ _ hr5
        refine s_asg (ev_mod (ev_int (ev_callV (ea_cons (ev_var rfl) (ea_cons (ev_var rfl) ea_nil)) (sv_dot (.inl (sq_of hr6)) ((((hn.ex e3).ex e4).ex e5).ex e6) f0 g0 h0))) (ev_var rfl) (by omega)) fun H7 e7 => ?_
        exact fin _ H7 (e6.trans e7) ⟨Int.emod_nonneg _ (by omega), by have := Int.emod_lt_of_pos (f * x + g * y + h * z) (show 0 < mo by omega); omega⟩
      · exact fin _ H6 e6 ⟨Int.emod_nonneg _ (by omega), by have := Int.emod_lt_of_pos (ds.getD (5 : Int).toNat 0) (show 0 < mo by omega); omega⟩
end
end Kf

set_option Elab.async false
set_option linter.all false
set_option maxRecDepth 100000
set_option maxHeartbeats 4000000
namespace Kf
open PySem L2 Evl
/-! ### a claim as its parts in the order of a stack -/
def Cl.post : Cl → List Pt
  | .is f g h r m => [.is f g h r m]
  | .not c => c.post ++ [.not]
  | .and a b => a.post ++ b.post ++ [.and]
  | .or a b => a.post ++ b.post ++ [.or]
def Cl.leaves : Cl → Nat
  | .is .. => 1
  | .not c => c.leaves
  | .and a b => a.leaves + b.leaves
  | .or a b => a.leaves + b.leaves
theorem Cl.leaves_pos : ∀ c : Cl, 1 ≤ c.leaves
  | .is .. => Nat.le_refl 1
  | .not c => c.leaves_pos
  | .and a b => Nat.le_trans a.leaves_pos (Nat.le_add_right _ _)
  | .or a b => Nat.le_trans a.leaves_pos (Nat.le_add_right _ _)
def Cl.bin : Bool → Cl → Cl → Cl
  | false => .and
  | true => .or
def Pt.bin : Bool → Pt
  | false => .and
  | true => .or
def binW : Bool → Str
  | false => "and"
  | true => "or"
theorem Cl.post_bin (s : Bool) (a b : Cl) : (Cl.bin s a b).post = a.post ++ b.post ++ [Pt.bin s] := by cases s <;> rfl
theorem Cl.depth_bin (s : Bool) (a b : Cl) : (Cl.bin s a b).depth = max a.depth b.depth + 1 := by cases s <;> rfl
theorem Cl.leaves_bin (s : Bool) (a b : Cl) : (Cl.bin s a b).leaves = a.leaves + b.leaves := by cases s <;> rfl
theorem Cl.ok_bin (s : Bool) {a b : Cl} (ha : a.Ok) (hb : b.Ok) : (Cl.bin s a b).Ok := by cases s <;> exact ⟨ha, hb⟩
theorem partAt_bin {K : PySem.W.Frag} {H : Hp} {a : Addr} (s : Bool) (h : SqT K H a [.str (binW s)]) : PartAt K H (.ref a) (Pt.bin s) := by cases s <;> exact ⟨a, rfl, h⟩

/-! ### the machine: parts upon a stack, its top first -/
def stepC : List Cl → Pt → Option (List Cl)
  | s, .is f g h r m => some (.is f g h r m :: s)
  | c :: s, .not => some (.not c :: s)
  | b :: a :: s, .and => some (.and a b :: s)
  | b :: a :: s, .or => some (.or a b :: s)
  | _, _ => none
theorem step_not : ∀ {ts us : List Cl}, stepC ts .not = some us → ∃ c s, ts = c :: s ∧ us = .not c :: s
  | [], _, h => nomatch h
  | c :: s, _, h => ⟨c, s, rfl, (Option.some.inj h).symm⟩
theorem step_and : ∀ {ts us : List Cl}, stepC ts .and = some us → ∃ b a s, ts = b :: a :: s ∧ us = .and a b :: s
  | [], _, h => nomatch h
  | [_], _, h => nomatch h
  | b :: a :: s, _, h => ⟨b, a, s, rfl, (Option.some.inj h).symm⟩
theorem step_or : ∀ {ts us : List Cl}, stepC ts .or = some us → ∃ b a s, ts = b :: a :: s ∧ us = .or a b :: s
  | [], _, h => nomatch h
  | [_], _, h => nomatch h
  | b :: a :: s, _, h => ⟨b, a, s, rfl, (Option.some.inj h).symm⟩
def parse : List Pt → List Cl → Option (List Cl)
  | [], s => some s
  | p :: r, s => (stepC s p).bind (parse r)
theorem parse_app : ∀ (a b : List Pt) (s : List Cl), parse (a ++ b) s = (parse a s).bind (parse b)
  | [], b, s => rfl
  | p :: r, b, s => by
    show (stepC s p).bind (parse (r ++ b)) = ((stepC s p).bind (parse r)).bind (parse b)
    cases stepC s p with
    | none => rfl
    | some t => exact parse_app r b t
theorem parse_post : ∀ (c : Cl) (s : List Cl), parse c.post s = some (c :: s)
  | .is .., s => rfl
  | .not c, s => by
    show parse (c.post ++ [.not]) s = _
    rw [parse_app, parse_post c s] <;> rfl
  | .and a b, s => by
    show parse (a.post ++ b.post ++ [Pt.and]) s = _
    rw [parse_app, parse_app, parse_post a s, Option.bind_some, parse_post b (a :: s)] <;> rfl
  | .or a b, s => by
    show parse (a.post ++ b.post ++ [Pt.or]) s = _
    rw [parse_app, parse_app, parse_post a s, Option.bind_some, parse_post b (a :: s)] <;> rfl
/-- every beginning of a right code runs -/
theorem parse_take {ps : List Pt} {s : List Cl} (h : parse ps [] = some s) (i : Nat) : ∃ t, parse (ps.take i) [] = some t := by
  have e : parse (ps.take i ++ ps.drop i) [] = some s := by rw [List.take_append_drop]; exact h
  rw [parse_app] at e
  cases k : parse (ps.take i) [] with
  | none => rw [k] at e; cases e
  | some t => exact ⟨t, rfl⟩
theorem parse_next {ps : List Pt} {p : Pt} {i : Nat} {t : List Cl} {s : List Cl} (h : parse ps [] = some s) (hp : ps[i]? = some p) (ht : parse (ps.take i) [] = some t) : ∃ u, stepC t p = some u ∧ parse (ps.take (i + 1)) [] = some u := by
  obtain ⟨u, hu⟩ := parse_take h (i + 1)
  have e := hu
  rw [take_one hp, parse_app, ht, Option.bind_some] at e
  have e2 : (stepC t p).bind (parse []) = some u := e
  cases k : stepC t p with
  | none => rw [k] at e2; cases e2
  | some v =>
    rw [k] at e2
    have e3 : some v = some u := e2
    exact ⟨u, e3, hu⟩
/-- the modulus of a code -/
def stepL (n : Nat) : Pt → Nat
  | .is _ _ _ _ m => n.lcm m.toNat
  | _ => n
def lcmP (ps : List Pt) : Nat := ps.foldl stepL 1
theorem lcm_fold : ∀ (c : Cl) (n : Nat), c.post.foldl stepL n = n.lcm c.many
  | .is .., n => rfl
  | .not c, n => by
    show (c.post ++ [Pt.not]).foldl _ n = n.lcm c.many
    rw [List.foldl_append, lcm_fold c n] <;> rfl
  | .and a b, n => by
    show (a.post ++ b.post ++ [Pt.and]).foldl _ n = n.lcm (a.many.lcm b.many)
    rw [List.foldl_append, List.foldl_append, lcm_fold a n, lcm_fold b _, ← Nat.lcm_assoc] <;> rfl
  | .or a b, n => by
    show (a.post ++ b.post ++ [Pt.or]).foldl _ n = n.lcm (a.many.lcm b.many)
    rw [List.foldl_append, List.foldl_append, lcm_fold a n, lcm_fold b _, ← Nat.lcm_assoc] <;> rfl
theorem lcmP_post (c : Cl) : lcmP c.post = c.many := (lcm_fold c 1).trans (by rw [Nat.lcm_comm, Nat.lcm_one_right])
def PtOk : Pt → Prop
  | .is f g h r m => LeafOk f g h r m
  | _ => True
theorem Cl.pts : ∀ {c : Cl}, c.Ok → ∀ p ∈ c.post, PtOk p
  | .is .., ok, p, h => by
    have e := List.mem_singleton.mp h
    subst e
    exact ok
  | .not c, ok, p, h => by
    rcases List.mem_append.mp h with h | h
    · exact Cl.pts (c := c) ok p h
    · rw [List.mem_singleton.mp h]; trivial
  | .and a b, ok, p, h => by
    rcases List.mem_append.mp h with h | h
    · rcases List.mem_append.mp h with h | h
      · exact Cl.pts ok.1 p h
      · exact Cl.pts ok.2 p h
    · rw [List.mem_singleton.mp h]; trivial
  | .or a b, ok, p, h => by
    rcases List.mem_append.mp h with h | h
    · rcases List.mem_append.mp h with h | h
      · exact Cl.pts ok.1 p h
      · exact Cl.pts ok.2 p h
    · rw [List.mem_singleton.mp h]; trivial
theorem lcmP_dvd : ∀ (ps : List Pt) (n : Nat), (∀ p ∈ ps, PtOk p) → n ∣ 27720 → 0 < n → ps.foldl stepL n ∣ 27720 ∧ 0 < ps.foldl stepL n
  | [], n, _, h, h0 => ⟨h, h0⟩
  | .is f g h r m :: ps, n, hp, hd, h0 => by
    have k := Cl.dvd (c := .is f g h r m) (hp _ List.mem_cons_self)
    exact lcmP_dvd ps _ (fun p hq => hp p (List.mem_cons_of_mem _ hq)) (Nat.lcm_dvd hd k.1) (Nat.lcm_pos h0 k.2)
  | .not :: ps, n, hp, hd, h0 => lcmP_dvd ps n (fun p hq => hp p (List.mem_cons_of_mem _ hq)) hd h0
  | .and :: ps, n, hp, hd, h0 => lcmP_dvd ps n (fun p hq => hp p (List.mem_cons_of_mem _ hq)) hd h0
  | .or :: ps, n, hp, hd, h0 => lcmP_dvd ps n (fun p hq => hp p (List.mem_cons_of_mem _ hq)) hd h0
theorem lcmP_le {ps : List Pt} (h : ∀ p ∈ ps, PtOk p) : lcmP ps ≤ 27720 ∧ 0 < lcmP ps := ⟨Nat.le_of_dvd (by decide) (lcmP_dvd ps 1 h (Nat.one_dvd _) (by decide)).1, (lcmP_dvd ps 1 h (Nat.one_dvd _) (by decide)).2⟩
theorem Cl.post_le : ∀ c : Cl, c.post.length ≤ 2 ^ c.depth + 2 ^ c.depth - 1 - 1 + 1
  | .is .. => by show 1 ≤ 2 ^ 1 + 2 ^ 1 - 1 - 1 + 1; decide
  | .not c => by
    have h := Cl.post_le c
    have e : (Cl.not c).post.length = c.post.length + 1 := by show (c.post ++ [Pt.not]).length = _; rw [List.length_append] <;> rfl
    have d : (2 : Nat) ^ (Cl.not c).depth = 2 ^ c.depth * 2 := Nat.pow_succ 2 _
    have p : 2 ^ 1 ≤ 2 ^ c.depth := Nat.pow_le_pow_right (by decide) c.pos
    rw [e, d]
    omega
  | .and a b => by
    have h := Cl.post_le a
    have h2 := Cl.post_le b
    have e : (Cl.and a b).post.length = a.post.length + b.post.length + 1 := by show (a.post ++ b.post ++ [Pt.and]).length = _; rw [List.length_append, List.length_append] <;> rfl
    have d : (2 : Nat) ^ (Cl.and a b).depth = 2 ^ max a.depth b.depth * 2 := Nat.pow_succ 2 _
    have p1 : 2 ^ a.depth ≤ 2 ^ max a.depth b.depth := Nat.pow_le_pow_right (by decide) (Nat.le_max_left _ _)
    have p2 : 2 ^ b.depth ≤ 2 ^ max a.depth b.depth := Nat.pow_le_pow_right (by decide) (Nat.le_max_right _ _)
    have p : 2 ^ 1 ≤ 2 ^ a.depth := Nat.pow_le_pow_right (by decide) a.pos
    rw [e, d]
    omega
  | .or a b => by
    have h := Cl.post_le a
    have h2 := Cl.post_le b
    have e : (Cl.or a b).post.length = a.post.length + b.post.length + 1 := by show (a.post ++ b.post ++ [Pt.or]).length = _; rw [List.length_append, List.length_append] <;> rfl
    have d : (2 : Nat) ^ (Cl.or a b).depth = 2 ^ max a.depth b.depth * 2 := Nat.pow_succ 2 _
    have p1 : 2 ^ a.depth ≤ 2 ^ max a.depth b.depth := Nat.pow_le_pow_right (by decide) (Nat.le_max_left _ _)
    have p2 : 2 ^ b.depth ≤ 2 ^ max a.depth b.depth := Nat.pow_le_pow_right (by decide) (Nat.le_max_right _ _)
    have p : 2 ^ 1 ≤ 2 ^ a.depth := Nat.pow_le_pow_right (by decide) a.pos
    rw [e, d]
    omega
theorem Cl.post_small {c : Cl} (h : c.depth ≤ 12) : c.post.length ≤ 9000 := by
  have k := Cl.post_le c
  have p : 2 ^ c.depth ≤ 2 ^ 12 := Nat.pow_le_pow_right (by decide) h
  omega

/-! ### codes in the heap -/
def Parts (K : PySem.W.Frag) (H : Hp) (vs : List V) (ps : List Pt) : Prop := vs.length = ps.length ∧ ∀ (i : Nat) v, vs[i]? = some v → ∃ p, ps[i]? = some p ∧ PartAt K H v p
def CodeAt (K : PySem.W.Frag) (H : Hp) (a : Addr) (ps : List Pt) : Prop := ∃ vs, H a = some (.lst vs) ∧ Parts K H vs ps
section
variable {K : PySem.W.Frag} {H H' : Hp} {vs ws : List V} {ps qs : List Pt} {v : V} {p : Pt} {a c : Addr} {xs ys : List V}
theorem Parts.mo (h : Parts K H vs ps) (e : Ex H H') : Parts K H' vs ps := ⟨h.1, fun i v q => by
  obtain ⟨p, a, b⟩ := h.2 i v q
  exact ⟨p, a, b.mo e⟩⟩
theorem CodeAt.mo (h : CodeAt K H a ps) (e : Ex H H') : CodeAt K H' a ps := by
  obtain ⟨vs, h1, h2⟩ := h
  exact ⟨vs, e _ _ h1, h2.mo e⟩
theorem Parts.nil : Parts K H [] [] := ⟨rfl, fun i v q => by simp at q⟩
theorem Parts.app (h : Parts K H vs ps) (g : Parts K H ws qs) : Parts K H (vs ++ ws) (ps ++ qs) := by
  refine ⟨by rw [List.length_append, List.length_append, h.1, g.1], fun i v q => ?_⟩
  by_cases hi : i < vs.length
  · rw [List.getElem?_append_left hi] at q
    obtain ⟨p, e, k⟩ := h.2 i v q
    exact ⟨p, by rw [List.getElem?_append_left (by rw [← h.1]; exact hi)]; exact e, k⟩
  · rw [List.getElem?_append_right (by omega)] at q
    obtain ⟨p, e, k⟩ := g.2 _ v q
    exact ⟨p, by rw [List.getElem?_append_right (by rw [← h.1]; omega), ← h.1]; exact e, k⟩
theorem Parts.one (h : PartAt K H v p) : Parts K H [v] [p] := ⟨rfl, fun i w q => by
  cases i with
  | zero => cases (Option.some.inj q); exact ⟨p, rfl, h⟩
  | succ i => simp at q⟩
theorem Parts.snoc (h : Parts K H vs ps) (g : PartAt K H v p) : Parts K H (vs ++ [v]) (ps ++ [p]) := h.app (.one g)
/-- a list that changes is no tuple -/
theorem sqT_upd {o : HO} (h : SqT K H a xs) (hc : H c = some (.lst ys)) : SqT K (upd H c o) a xs := by
  rcases h with (h | ⟨u, h⟩) | h
  · exact .inl (.inl (by rw [upd_ne (ne_of h hc (fun z => nomatch z))]; exact h))
  · exact .inl (.inr ⟨u, by rw [upd_ne (ne_of h hc (fun z => nomatch z))]; exact h⟩)
  · exact .inr h
theorem PartAt.upd {o : HO} (h : PartAt K H v p) (hc : H c = some (.lst ys)) : PartAt K (L2.upd H c o) v p := by
  cases p with
  | is f g h r m => obtain ⟨a, b, x, y, z⟩ := h; exact ⟨a, b, x, sqT_upd y hc, sqT_upd z hc⟩
  | not => obtain ⟨a, x, y⟩ := h; exact ⟨a, x, sqT_upd y hc⟩
  | and => obtain ⟨a, x, y⟩ := h; exact ⟨a, x, sqT_upd y hc⟩
  | or => obtain ⟨a, x, y⟩ := h; exact ⟨a, x, sqT_upd y hc⟩
theorem Parts.upd {o : HO} (h : Parts K H vs ps) (hc : H c = some (.lst ys)) : Parts K (L2.upd H c o) vs ps := ⟨h.1, fun i v q => by
  obtain ⟨p, a, b⟩ := h.2 i v q
  exact ⟨p, a, b.upd hc⟩⟩
end
end Kf

set_option Elab.async false
set_option linter.all false
set_option maxRecDepth 100000
set_option maxHeartbeats 4000000
namespace Kf
open PySem L2 Evl
/-! ### slices of drawn digits -/
theorem cut_ints {ds : List Int} {lo hi : Int} (a b : Nat) (ha : lo = (a : Int)) (hb : hi = (b : Int)) (hab : a ≤ b) (hl : b ≤ ds.length) : cutV (ds.map V.int) (some lo) (some hi) = ((ds.drop a).take (b - a)).map V.int := by
  subst ha hb
  unfold cutV
  rw [HT.sIx_nat, HT.sIx_nat, List.length_map, Nat.min_eq_left (by omega : a ≤ ds.length), Nat.min_eq_left hl, List.map_take, List.map_drop]
theorem DigOk.slice {ss ds : List Int} (h : DigOk ss ds) (a n : Nat) : DigOk ((ss.drop a).take n) ((ds.drop a).take n) := by
  refine ⟨by rw [List.length_take, List.length_take, List.length_drop, List.length_drop, h.1], fun i s d hs hd => ?_⟩
  by_cases hi : i < n
  · rw [List.getElem?_take_of_lt hi, List.getElem?_drop] at hs hd
    exact h.2 _ s d hs hd
  · rw [List.getElem?_eq_none (by rw [List.length_take]; omega)] at hs
    cases hs
/-! ### stacks of claims, the code that stands for them, their depths -/
def flat (ts : List Cl) : List Pt := (ts.map Cl.post).flatten
def depV (ts : List Cl) : List V := ts.map fun t => V.int (t.depth : Nat)
def many1 (ts : List Cl) : Nat := (ts.map Cl.leaves).sum
theorem flat_snoc (ts : List Cl) (t : Cl) : flat (ts ++ [t]) = flat ts ++ t.post := by
  unfold flat
  rw [List.map_append, List.flatten_append]
  show _ ++ (t.post ++ []) = _
  rw [List.append_nil]
theorem depV_snoc (ts : List Cl) (t : Cl) : depV (ts ++ [t]) = depV ts ++ [V.int (t.depth : Nat)] := by
  unfold depV
  rw [List.map_append] <;> rfl
theorem many1_snoc (ts : List Cl) (t : Cl) : many1 (ts ++ [t]) = many1 ts + t.leaves := by
  unfold many1
  rw [List.map_append, List.sum_append]
  show _ + (t.leaves + 0) = _
  rw [Nat.add_zero]
theorem depV_len (ts : List Cl) : (depV ts).length = ts.length := List.length_map _
theorem many1_le (ts : List Cl) : ts.length ≤ many1 ts := by
  induction ts with
  | nil => exact Nat.le_refl 0
  | cons t r ih =>
    have := t.leaves_pos
    have e : many1 (t :: r) = t.leaves + many1 r := by unfold many1; rw [List.map_cons, List.sum_cons]
    rw [e, List.length_cons]
    omega
def Good (ts : List Cl) : Prop := ∀ t ∈ ts, t.Ok ∧ t.depth ≤ t.leaves + 2
theorem Good.snoc {ts : List Cl} {t : Cl} (h : Good ts) (ok : t.Ok) (hd : t.depth ≤ t.leaves + 2) : Good (ts ++ [t]) := fun x hx => by
  rcases List.mem_append.mp hx with hx | hx
  · exact h x hx
  · rw [List.mem_singleton.mp hx]
    exact ⟨ok, hd⟩
theorem Good.left {ts : List Cl} {t : Cl} (h : Good (ts ++ [t])) : Good ts := fun x hx => h x (List.mem_append_left _ hx)
theorem Good.right {ts : List Cl} {t : Cl} (h : Good (ts ++ [t])) : t.Ok ∧ t.depth ≤ t.leaves + 2 := h t (List.mem_append_right _ (List.mem_singleton.mpr rfl))
theorem Good.len {ts : List Cl} (h : Good ts) (hm : many1 ts ≤ 10) : (flat ts).length ≤ 90000 := by
  have k : ∀ ts : List Cl, (∀ t ∈ ts, t.post.length ≤ 9000) → (flat ts).length ≤ 9000 * ts.length := by
    intro ts
    induction ts with
    | nil => intro _; exact Nat.le_refl 0
    | cons t r ih =>
      intro hq
      have h1 := ih fun x hx => hq x (List.mem_cons_of_mem _ hx)
      have h2 := hq t List.mem_cons_self
      have e : flat (t :: r) = t.post ++ flat r := by unfold flat; rw [List.map_cons, List.flatten_cons]
      rw [e, List.length_append, List.length_cons]
      omega
  have l1 : ∀ t ∈ ts, t.leaves ≤ many1 ts := by
    intro t ht
    obtain ⟨a, b, e⟩ := List.append_of_mem ht
    subst e
    unfold many1
    rw [List.map_append, List.sum_append, List.map_cons, List.sum_cons]
    omega
  have h2 := k ts fun t ht => Cl.post_small (by have := (h t ht).2; have := l1 t ht; omega)
  have h3 := many1_le ts
  omega
section
variable {K : PySem.W.Frag} {σ : L2.St} {H H' : Hp} {ta tb te : TE} {tr : TA} {D : Ends} {tz : TS}
/-! ### values on the way -/
def IsCode (K : PySem.W.Frag) (ps : List Pt) : Pr := fun v H => ∃ p, v = .ref p ∧ CodeAt K H p ps
theorem evp_catC {ps qs : List Pt} (ha : EvP ta σ H (IsCode K ps)) (hb : ∀ H1, Ex H H1 → EvP tb σ H1 (IsCode K qs)) (hz : ps.length + qs.length ≤ 100000) : EvP (tOp rCat ta tb) σ H (IsCode K (ps ++ qs)) := fun H1 a Q q =>
  ha H1 a _ fun v H2 a2 hv => hb H2 (a.trans a2) H2 (Ex.refl H2) _ fun u H3 a3 hu => by
    obtain ⟨p, rfl, vs, h1, h2⟩ := hv
    obtain ⟨p', rfl, ws, g1, g2⟩ := hu
    exact ⟨p, p', vs, ws, rfl, rfl, a3 _ _ h1, g1, sz_of (by rw [h2.1, g2.1]; exact hz), fun l hl => q _ _ ((a2.trans a3).trans (Ex.new hl)) ⟨l, rfl, _, upd_same, ((h2.mo a3).mo (Ex.new hl)).app (g2.mo (Ex.new hl))⟩⟩
theorem evp_lstC {ps : List Pt} (h : EvAP tr σ H fun vs H1 => Parts K H1 vs ps) (hl : ps.length ≤ 100000) : EvP (tLst tr) σ H (IsCode K ps) := fun H1 a Q q =>
  h H1 a _ fun vs H2 a2 r => ⟨sz_of (by rw [r.1]; exact hl), fun p hp => q _ _ (a2.trans (Ex.new hp)) ⟨p, rfl, vs, upd_same, r.mo (Ex.new hp)⟩⟩
theorem eapt_nil : EvAP tNil σ H fun vs H1 => Parts K H1 vs [] := fun H1 _ Q q => q [] H1 (Ex.refl H1) .nil
theorem eapt_cons {p : Pt} {ps : List Pt} (h : EvP te σ H fun v H1 => PartAt K H1 v p) (hr : ∀ H1, Ex H H1 → EvAP tr σ H1 fun vs H2 => Parts K H2 vs ps) : EvAP (tCons te tr) σ H fun vs H1 => Parts K H1 vs (p :: ps) := fun H1 a Q q =>
  h H1 a _ fun v H2 a2 hp => hr H2 (a.trans a2) H2 (Ex.refl H2) _ fun vs H3 a3 r => q _ _ (a2.trans a3) ((Parts.one (hp.mo a3)).app r)
theorem evp_word {w : Str} {p : Pt} (h : Ev te σ H (.str w)) (k : ∀ a H, SqT K H a [.str w] → PartAt K H (.ref a) p) : EvP (tTup (tCons te tNil)) σ H fun v H1 => PartAt K H1 v p :=
  evp_U (eu_tup (ea_cons h ea_nil) (by show 1 ≤ 100000; decide)) fun q H1 _ hq => k q H1 (st_of hq)
theorem evp_var {i : Nat} {v : V} {P : Pr} (h : σ[i]? = some (some v)) (k : ∀ H1, Ex H H1 → P v H1) : EvP (tVar i) σ H P := evp_ev (ev_var h) k
/-- ['and', 'or'][i] and ['or', 'and'][i] -/
theorem ev_two {a b : Str} {i : Int} (hb : Ev tb σ H (.int i)) (h0 : 0 ≤ i) (h1 : i < 2) : Ev (tOp (rIxL K) (tLst (tCons (tC (.str a)) (tCons (tC (.str b)) tNil))) tb) σ H (.str (if i = 0 then a else b)) :=
  ev_opL1 (el_lst (ea_cons ev_c (ea_cons ev_c ea_nil)) (by show 2 ≤ 100000; decide)) (fun H1 e => hb.mono e) fun p H1 hp _ => by
    refine rv_ixL (sq_of hp) ?_
    have h2 : i = 0 ∨ i = 1 := by omega
    rcases h2 with rfl | rfl
    · rfl
    · rfl
theorem ev_andOr {i : Int} (hb : Ev tb σ H (.int i)) (h0 : 0 ≤ i) (h1 : i < 2) : Ev (tOp (rIxL K) (tLst (tCons (tC (.str "and")) (tCons (tC (.str "or")) tNil))) tb) σ H (.str (binW (!decide (i = 0)))) := ev_is (ev_two hb h0 h1) (by
  by_cases h : i = 0
  · rw [if_pos h, decide_eq_true h] <;> rfl
  · rw [if_neg h, decide_eq_false h] <;> rfl)
theorem ev_orAnd {i : Int} (hb : Ev tb σ H (.int i)) (h0 : 0 ≤ i) (h1 : i < 2) : Ev (tOp (rIxL K) (tLst (tCons (tC (.str "or")) (tCons (tC (.str "and")) tNil))) tb) σ H (.str (binW (decide (i = 0)))) := ev_is (ev_two hb h0 h1) (by
  by_cases h : i = 0
  · rw [if_pos h, decide_eq_true h] <;> rfl
  · rw [if_neg h, decide_eq_false h] <;> rfl)
theorem last_snoc {α : Type} (xs : List α) (x : α) : (xs ++ [x])[(xs ++ [x]).length - 1]? = some x := by
  rw [List.length_append]
  show (xs ++ [x])[xs.length + 1 - 1]? = some x
  rw [Nat.add_sub_cancel, List.getElem?_append_right (Nat.le_refl _), Nat.sub_self] <;> rfl
/-- x = s.pop() -/
theorem s_pop {i j : Nat} {l : Addr} {xs : List V} {x : V} (hs : σ[i]? = some (some (.ref l))) (hl : H l = some (.lst (xs ++ [x]))) (k : D.nx (σ.set j (some x)) (L2.upd H l (.lst xs))) : tAsg (tBM0 K "list" rPop (tVar i)) (gName j) D σ H :=
  ⟨_, hs, Or.inl ⟨rfl, _, sq_of hl⟩, l, _, x, rfl, rfl, hl, last_snoc xs x, by rw [List.dropLast_concat]; exact k⟩
theorem q_pop {i j : Nat} {l : Addr} {xs : List V} {x : V} (hs : σ[i]? = some (some (.ref l))) (hl : H l = some (.lst (xs ++ [x]))) (k : tz D (σ.set j (some x)) (L2.upd H l (.lst xs))) : tSeq (tAsg (tBM0 K "list" rPop (tVar i)) (gName j)) tz D σ H :=
  s_pop (D := { D with nx := tz D }) hs hl k
def rMaxI : List V → Hp → VK → Prop := fun xs H Q => ∃ i j, xs = [.int i, .int j] ∧ Q (.int (if j > i then j else i)) H
/-- s.append(max(s.pop(), y) + 1) -/
theorem s_popMax {i j : Nat} {l : Addr} {xs : List V} {x y : Int} (hs : σ[i]? = some (some (.ref l))) (hj : σ[j]? = some (some (.int y))) (hl : H l = some (.lst (xs ++ [.int x]))) (hz : xs.length < 100000)
    (k : D.nx σ (L2.upd H l (.lst (xs ++ [.int ((if y > x then y else x) + 1)])))) :
    tDrop (tBM K "list" rAppend (tVar i) (tCons (tOp (rI0 fun i j => .int (i + j)) (tCB rMaxI (tCons (tBM0 K "list" rPop (tVar i)) (tCons (tVar j) tNil))) (tC (.int 1))) tNil)) D σ H :=
  ⟨_, hs, Or.inl ⟨rfl, _, sq_of hl⟩, _, hs, Or.inl ⟨rfl, _, sq_of hl⟩, l, _, _, rfl, rfl, hl, last_snoc xs _, by
    rw [List.dropLast_concat]
    exact ⟨_, hj, x, y, rfl, _, _, rfl, rfl, l, xs, _, rfl, rfl, upd_same, sz_lt hz, by rw [upd_upd]; exact k⟩⟩
/-- s.append(s.pop() + 1) -/
theorem s_popOne {i : Nat} {l : Addr} {xs : List V} {x : Int} (hs : σ[i]? = some (some (.ref l))) (hl : H l = some (.lst (xs ++ [.int x]))) (hz : xs.length < 100000) (k : D.nx σ (L2.upd H l (.lst (xs ++ [.int (x + 1)])))) :
    tDrop (tBM K "list" rAppend (tVar i) (tCons (tOp (rI0 fun i j => .int (i + j)) (tBM0 K "list" rPop (tVar i)) (tC (.int 1))) tNil)) D σ H :=
  ⟨_, hs, Or.inl ⟨rfl, _, sq_of hl⟩, _, hs, Or.inl ⟨rfl, _, sq_of hl⟩, l, _, _, rfl, rfl, hl, last_snoc xs _, by
    rw [List.dropLast_concat]
    exact ⟨_, _, rfl, rfl, l, xs, _, rfl, rfl, upd_same, sz_lt hz, by rw [upd_upd]; exact k⟩⟩
theorem max_int (a b : Nat) : (if (b : Int) > (a : Int) then (b : Int) else (a : Int)) + 1 = ((max a b + 1 : Nat) : Int) := by
  by_cases h : (b : Int) > (a : Int)
  · rw [if_pos h, Nat.max_eq_right (by omega)] <;> rfl
  · rw [if_neg h, Nat.max_eq_left (by omega)] <;> rfl
end
abbrev rowSizes : List Int := [3, 199, 199, 199, 12, 12, 2, 4, 3, 2]
abbrev bigSizes : List Int := [60, 3, 199, 199, 199, 12, 12, 2, 4, 3, 2, 3, 199, 199, 199, 12, 12, 2, 4, 3, 2, 3, 199, 199, 199, 12, 12, 2, 4, 3, 2, 3, 199, 199, 199, 12, 12, 2, 4, 3, 2, 3, 199, 199, 199, 12, 12, 2, 4, 3, 2]
/-- the code of a claim and its depth -/
def IsCodeD (K : PySem.W.Frag) (t : Cl) : Pr := fun v H => ∃ a pc, v = .ref a ∧ SqT K H a [.ref pc, .int (t.depth : Nat)] ∧ CodeAt K H pc t.post
def spCode (K : PySem.W.Frag) : Sp := fun vs H Q _ => ∃ (c : Int) (pn pm : Addr) (most : Nat) (ms : List Int) (x y z : Int), vs = [.int c, .ref pn, .ref pm, .int (most : Int)] ∧ Sq K H pn [.int x, .int y, .int z] ∧ SqL K H pm (ms.map V.int) ∧ MenuOk ms ∧ 1 ≤ most ∧ most ≤ 5 ∧
  ∀ t : Cl, t.Ok → t.depth ≤ most + 2 → ∀ v H', Ex H H' → IsCodeD K t v H' → Q v H'
/-- the two lists that the loop grows -/
structure Stk (K : PySem.W.Frag) (Hb : Hp) (pc pq : Addr) (H : Hp) (ps : List Pt) (dv : List V) : Prop where
  ex : Ex Hb H
  b1 : Hb pc = none
  b2 : Hb pq = none
  ne : pc ≠ pq
  code : ∃ vs, H pc = some (.lst vs) ∧ Parts K H vs ps
  deps : H pq = some (.lst dv)
section
variable {K : PySem.W.Frag} {Hb H H' : Hp} {pc pq : Addr} {ps : List Pt} {dv dv' vs : List V} {v : V} {p : Pt}
theorem Stk.mo (h : Stk K Hb pc pq H ps dv) (e : Ex H H') : Stk K Hb pc pq H' ps dv := by
  obtain ⟨vs, a, b⟩ := h.code
  exact ⟨h.ex.trans e, h.b1, h.b2, h.ne, ⟨vs, e _ _ a, b.mo e⟩, e _ _ h.deps⟩
theorem Stk.push (h : Stk K Hb pc pq H ps dv) (h1 : H pc = some (.lst vs)) (h2 : Parts K H vs ps) (hp : PartAt K H v p) : Stk K Hb pc pq (upd H pc (.lst (vs ++ [v]))) (ps ++ [p]) dv :=
  ⟨Ex.mut h.ex h.b1, h.b1, h.b2, h.ne, ⟨vs ++ [v], upd_same, (h2.upd h1).snoc (hp.upd h1)⟩, by rw [upd_ne (Ne.symm h.ne)]; exact h.deps⟩
theorem Stk.dep (h : Stk K Hb pc pq H ps dv) : Stk K Hb pc pq (upd H pq (.lst dv')) ps dv' := by
  obtain ⟨vs, a, b⟩ := h.code
  exact ⟨Ex.mut h.ex h.b2, h.b1, h.b2, h.ne, ⟨vs, by rw [upd_ne h.ne]; exact a, b.upd h.deps⟩, upd_same⟩
end
theorem snoc_of {α : Type} {l : List α} (h : l ≠ []) : ∃ r x, l = r ++ [x] := ⟨l.dropLast, l.getLast h, (List.dropLast_concat_getLast h).symm⟩
section
variable {P : Program} {w : World} {K : PySem.W.Frag} {mg : Str → Option Value} {base : Heap} {H : Hp}
abbrev sLawCode : Stmt := top 34
theorem scLawCode : FnScope ["cell", "near", "menu", "most", "digits", "code", "depths", "k", "row", "two"] ["cell", "near", "menu", "most"] (defScope sLawCode) := ⟨rfl, rfl, rfl, by decide +kernel, rfl, by decide +kernel, by decide +kernel⟩
abbrev sLawWrapped : Stmt := top 35
theorem scLawWrapped : FnScope ["code", "depth", "goal", "cell", "near", "menu", "digits", "k", "row", "leaf", "name"] ["code", "depth", "goal", "cell", "near", "menu"] (defScope sLawWrapped) := ⟨rfl, rfl, rfl, by decide +kernel, rfl, by decide +kernel, by decide +kernel⟩
theorem rows_of {i : Nat} (h : i < 5) : (bigSizes.drop (1 + 10 * i)).take 10 = rowSizes := by
  have k : i = 0 ∨ i = 1 ∨ i = 2 ∨ i = 3 ∨ i = 4 := by omega
  rcases k with rfl | rfl | rfl | rfl | rfl <;> rfl
theorem df_code (DLawDigits : Df P w K mg base CX0 "_law_digits" 1 ["cell", "sizes"] (spDigits K)) (DLawLeaf : Df P w K mg base CX0 "_law_leaf" 2 ["digits", "near", "menu"] (spLeaf K)) (B : Bi mg) (S : At K mg "_law_code" sLawCode ["cell", "near", "menu", "most"]) :
    Df P w K mg base CX0 "_law_code" 3 ["cell", "near", "menu", "most"] (spCode K) := by
  obtain ⟨f, fd, F, m, b⟩ := S
  refine ⟨f, fd, m, F.kp, b, F.ok scLawCode (fun vs H Q E h => ?_) (fun cdv A outer s H vs Q E hr h => ?_)⟩
  · obtain ⟨c, pn, pm, most, ms, x, y, z, rfl, _⟩ := h
    rfl
  obtain ⟨c, pn, pm, most, ms, x, y, z, rfl, hn, hm, om, m1, m5, q⟩ := h
  refine ⟨_, (pss_cons (ps_set (i := 4) scLawCode.nd rfl (Or.inl rfl) (pe_df DLawDigits hr pass0 (pa_cons (pv 0) (pa_cons (pe_op op_cat (pe_lst (pa_cons pe_int pa_nil)) (pe_op op_rep (pe_lst (pa_cons pe_int (pa_cons pe_int (pa_cons pe_int (pa_cons pe_int (pa_cons pe_int (pa_cons pe_int (pa_cons pe_int (pa_cons pe_int (pa_cons pe_int (pa_cons pe_int pa_nil))))))))))) pe_int)) pa_nil))))
  (pss_cons (ps_set (i := 5) scLawCode.nd rfl (Or.inl rfl) (pe_lst pa_nil))
  (pss_cons (ps_set (i := 6) scLawCode.nd rfl (Or.inl rfl) (pe_lst pa_nil))
  (pss_cons (ps_for PassesOwn.never rfl (pi_range1 rfl B.range (pa_cons (pe_op op_add pe_int (pe_op op_mod (pe_callTy call_int1 rfl B.int PyProof.Rows.boot_int (pa_cons (pe_ix ix_list (pv 4) pe_int (fun _ _ => rfl)) pa_nil)) (pv 3))) pa_nil)) (pg_name (i := 7) scLawCode.nd rfl (Or.inl rfl)) (pss_cons (ps_set (i := 8) scLawCode.nd rfl (Or.inl rfl) (pe_slice sl_list (pv 4) (po_some (pe_op op_add pe_int (pe_op op_mul pe_int (pv 7)))) (po_some (pe_op op_add pe_int (pe_op op_mul pe_int (pv 7))))))
  (pss_cons (ps_expr (pe_bm PySem.F.plainAttrs_list PySem.F.slot_list_append PySem.F.type_list_append mt_append (pv 5) (pa_cons (pe_df DLawLeaf hr pass0 (pa_cons (pv 8) (pa_cons (pv 1) (pa_cons (pv 2) pa_nil)))) pa_nil)))
  (pss_cons (ps_expr (pe_bm PySem.F.plainAttrs_list PySem.F.slot_list_append PySem.F.type_list_append mt_append (pv 6) (pa_cons pe_int pa_nil)))
  (pss_cut (ps_if (PW.pt (pw_and (pt_cmpR op_gt (pe_ix ix_list (pv 8) pe_int (fun _ _ => rfl)) pe_int (nomark _)) (pw_and1 (pt_cmpR op_gt (pe_callB call_len_seq rfl B.len PySem.boot_len (pa_cons (pv 6) pa_nil)) pe_int (nomark _))))) (pss_cons (ps_expr (pe_bm PySem.F.plainAttrs_list PySem.F.slot_list_append PySem.F.type_list_append mt_append (pv 5) (pa_cons (pe_tup (pa_cons (pe_ix ix_list (pe_lst (pa_cons pe_str (pa_cons pe_str pa_nil))) (pe_ix ix_list (pv 8) pe_int (fun _ _ => rfl)) (fun _ _ => rfl)) pa_nil)) pa_nil)))
  (pss_cons (ps_set (i := 9) scLawCode.nd rfl (Or.inl rfl) (pe_bm0 PySem.F.plainAttrs_list PySem.F.slot_list_pop PySem.F.type_list_pop mt_pop (pv 6)))
  (pss_one (ps_expr (pe_bm PySem.F.plainAttrs_list PySem.F.slot_list_append PySem.F.type_list_append mt_append (pv 6) (pa_cons (pe_op op_add (pe_callB (call_max2 rfl) rfl B.max PyProof.Rows.boot_max (pa_cons (pe_bm0 PySem.F.plainAttrs_list PySem.F.slot_list_pop PySem.F.type_list_pop mt_pop (pv 6)) (pa_cons (pv 9) pa_nil))) pe_int) pa_nil)))))) pss_nil)
  (pss_one (ps_if (PW.pt (pw_and (pt_cmpR op_eq (pe_ix ix_list (pv 8) pe_int (fun _ _ => rfl)) pe_int (nomark _)) (pw_and1 (pt_cmpR op_lt (pe_ix ix_list (pv 6) (pe_un un_neg pe_int) (fun _ _ => rfl)) pe_int (nomark _))))) (pss_cons (ps_expr (pe_bm PySem.F.plainAttrs_list PySem.F.slot_list_append PySem.F.type_list_append mt_append (pv 5) (pa_cons (pe_tup (pa_cons pe_str pa_nil)) pa_nil)))
  (pss_one (ps_expr (pe_bm PySem.F.plainAttrs_list PySem.F.slot_list_append PySem.F.type_list_append mt_append (pv 6) (pa_cons (pe_op op_add (pe_bm0 PySem.F.plainAttrs_list PySem.F.slot_list_pop PySem.F.type_list_pop mt_pop (pv 6)) pe_int) pa_nil))))) pss_nil)))))))
  (pss_cons (ps_for PassesOwn.never rfl (pi_range1 rfl B.range (pa_cons (pe_op op_sub (pe_callB call_len_seq rfl B.len PySem.boot_len (pa_cons (pv 6) pa_nil)) pe_int) pa_nil)) (pg_name (i := 7) scLawCode.nd rfl (Or.inl rfl)) (pss_cons (ps_expr (pe_bm PySem.F.plainAttrs_list PySem.F.slot_list_append PySem.F.type_list_append mt_append (pv 5) (pa_cons (pe_tup (pa_cons (pe_ix ix_list (pe_lst (pa_cons pe_str (pa_cons pe_str pa_nil))) (pe_ix ix_list (pv 4) (pe_op op_add pe_int (pe_op op_mul pe_int (pv 7))) (fun _ _ => rfl)) (fun _ _ => rfl)) pa_nil)) pa_nil)))
  (pss_cons (ps_set (i := 9) scLawCode.nd rfl (Or.inl rfl) (pe_bm0 PySem.F.plainAttrs_list PySem.F.slot_list_pop PySem.F.type_list_pop mt_pop (pv 6)))
  (pss_one (ps_expr (pe_bm PySem.F.plainAttrs_list PySem.F.slot_list_append PySem.F.type_list_append mt_append (pv 6) (pa_cons (pe_op op_add (pe_callB (call_max2 rfl) rfl B.max PyProof.Rows.boot_max (pa_cons (pe_bm0 PySem.F.plainAttrs_list PySem.F.slot_list_pop PySem.F.type_list_pop mt_pop (pv 6)) (pa_cons (pv 9) pa_nil))) pe_int) pa_nil)))))))
  (pss_one (ps_ret (pe_tup (pa_cons (pv 5) (pa_cons (pe_ix ix_list (pv 6) pe_int (fun _ _ => rfl)) pa_nil)))))))))), ?_⟩
  refine q_asgP (evp_digits bigSizes (ev_var rfl) (el_catLL (el_lst (ea_cons ev_c ea_nil) (by show 1 ≤ 100000; decide)) (el_rep (el_lst (ea_cons ev_c (ea_cons ev_c (ea_cons ev_c (ea_cons ev_c (ea_cons ev_c (ea_cons ev_c (ea_cons ev_c (ea_cons ev_c (ea_cons ev_c (ea_cons ev_c ea_nil)))))))))) (by show 10 ≤ 100000; decide)) ev_c (by decide) (by decide) (by show 10 * 5 ≤ 100000; decide)) (by show 1 + 50 ≤ 100000; decide)) rfl (by decide) (by decide)) fun v H1 e1 hv => ?_
  obtain ⟨pd, ds, rfl, ok, hd⟩ := hv
  have dl : ds.length = 51 := ok.1
  refine q_asgL (el_lst ea_nil (Nat.zero_le _)) fun pc H2 hpc e2 hc2 => ?_
  refine q_asgL (el_lst ea_nil (Nat.zero_le _)) fun pq H3 hpq e3 hq3 => ?_
  have ne : pc ≠ pq := ne_of_none hc2 hpq
  have st0 : Stk K H1 pc pq H3 (flat []) (depV []) := ⟨e2.trans e3, hpc, fresh_back e2 hpq, ne, ⟨[], e3 _ _ hc2, .nil⟩, hq3⟩
  have b0 := ok.at (j := 0) (by decide) (by decide)
  have mm : (0 : Int) < (most : Int) := by omega
  have k0 : 0 ≤ ds.getD (0 : Int).toNat 0 % (most : Int) := Int.emod_nonneg _ (by omega)
  have k1 : ds.getD (0 : Int).toNat 0 % (most : Int) < (most : Int) := Int.emod_lt_of_pos _ mm
  refine q_forR1 (n := 1 + ds.getD (0 : Int).toNat 0 % (most : Int)) (ea_cons (ev_op ev_c (ev_mod (ev_int (ev_op (ev_var rfl) ev_c (rv_ixL (sq_of (e3 _ _ (e2 _ _ hd))) (atI_ints (by decide) (by rw [dl]; decide))))) (ev_var rfl) mm) rv_I0) ea_nil) (by omega)
    (fun i σ' H' => ∃ (o7 o8 o9 : Option V) (ts : List Cl), σ' = [some (.int c), some (.ref pn), some (.ref pm), some (.int (most : Int)), some (.ref pd), some (.ref pc), some (.ref pq), o7, o8, o9] ∧ Stk K H1 pc pq H' (flat ts) (depV ts) ∧ Good ts ∧ many1 ts = i)
    (fun H4 e4 => ⟨none, none, none, [], rfl, st0.mo e4, (fun t ht => by simp at ht), rfl⟩) ?_ ?_
  · rintro i σ' H' hi ⟨o7, o8, o9, ts, rfl, st, gd, hm1⟩
    have i5 : i < 5 := by omega
    have hdq : SqL K H' pd (ds.map V.int) := sq_of (st.ex _ _ hd)
    have rok : DigOk rowSizes ((ds.drop (1 + 10 * i)).take 10) := by
      have k := ok.slice (1 + 10 * i) 10
      rw [rows_of i5] at k
      exact k
    refine q_asgL (el_sl (ev_var rfl) (eo_some (ev_op ev_c (ev_mul ev_c (ev_var rfl) (.inl ⟨by decide, by decide⟩)) rv_I0)) (eo_some (ev_op ev_c (ev_mul ev_c (ev_var rfl) (.inl ⟨by decide, by decide⟩)) rv_I0)) hdq) fun pr H4 hpr e4 hr4 => ?_
    have n1 : pr ≠ pc := by
      obtain ⟨vs, hv, _⟩ := st.code
      exact Ne.symm (ne_of_none hv hpr)
    have n2 : pr ≠ pq := Ne.symm (ne_of_none st.deps hpr)
    rw [cut_ints (1 + 10 * i) (11 + 10 * i) (by omega) (by omega) (by omega) (by rw [dl]; omega), show 11 + 10 * i - (1 + 10 * i) = 10 by omega] at hr4
    generalize (ds.drop (1 + 10 * i)).take 10 = rd at hr4 rok
    have rl : rd.length = 10 := rok.1
    have st4 := st.mo e4
    obtain ⟨vs, hv1, hv2⟩ := st4.code
    have tl : ts.length ≤ i := by rw [← hm1]; exact many1_le ts
    have fl := gd.len (by omega)
    have lpre : DigPre leafSizes rd := ⟨by rw [rl]; decide, fun j s d hs hd' => rok.2 j s d (by
      have hj : j < 7 := (List.getElem?_eq_some_iff.mp hs).1
      have k : j = 0 ∨ j = 1 ∨ j = 2 ∨ j = 3 ∨ j = 4 ∨ j = 5 ∨ j = 6 := by omega
      rcases k with rfl | rfl | rfl | rfl | rfl | rfl | rfl <;> exact hs) hd'⟩
    have d9 := rok.at (j := 9) (by decide) (by decide)
    refine q_appP hv1 (ev_var rfl) (evp_call (ea_cons (ev_var rfl) (ea_cons (ev_var rfl) (ea_cons (ev_var rfl) ea_nil))) (sv_leaf (sq_of hr4) lpre (((hn.ex e1).ex st.ex).ex e4) (ex_l ((e1.trans st.ex).trans e4) hm) om)) (by rw [hv2.1]; omega) fun v H5 e5 hleaf => ?_
    obtain ⟨lf, lg, lh, lr, lm, lok, lat⟩ := hleaf
    have st5 := (st4.mo e5).push (e5 _ _ hv1) (hv2.mo e5) lat
    have hr5 : (upd H5 pc (.lst (vs ++ [v]))) pr = some (.lst (rd.map V.int)) := by rw [upd_ne n1]; exact e5 _ _ hr4
    refine q_app st5.deps (ev_var rfl) ev_c (by rw [depV_len]; omega) fun H6 e6 => ?_
    have st6 := (st5.mo e6).dep (dv' := depV ts ++ [V.int 1])
    have hr6 : (upd H6 pq (.lst (depV ts ++ [V.int 1]))) pr = some (.lst (rd.map V.int)) := by rw [upd_ne n2]; exact e6 _ _ hr5
    generalize upd H6 pq (.lst (depV ts ++ [V.int 1])) = H7 at st6 hr6 ⊢
    refine q_cut (M := fun σ' H' => ∃ (o : Option V) (us : List Cl), σ' = [some (.int c), some (.ref pn), some (.ref pm), some (.int (most : Int)), some (.ref pd), some (.ref pc), some (.ref pq), some (.int (i : Int)), some (.ref pr), o] ∧ Stk K H1 pc pq H' (flat us) (depV us) ∧ Good us ∧ many1 us = i + 1 ∧
      us ≠ [] ∧ (∀ r t, us = r ++ [t] → t.leaves = 1 → t.depth = 1) ∧ H' pr = some (.lst (rd.map V.int))) ?_ ?_
    · have hrow : ∀ {H' : Hp}, Ex H7 H' → SqL K H' pr (rd.map V.int) := fun e => sq_of (e _ _ hr6)
      refine s_when (et_and (et_test (ev_op (ev_op (ev_var rfl) ev_c (rv_ixL (sq_of hr6) (atI_ints (by decide) (by rw [rl]; decide)))) ev_c rv_I0)) fun _ => et_test (ev_op (ev_lenQ (ev_var rfl) (.inl (sq_of st6.deps))) ev_c rv_I0)) (fun hb H8 e8 => ?_) fun hb H8 e8 => ?_
      · have h2 := of_decide_eq_true (Bool.and_eq_true_iff.mp hb).2
        rw [List.length_append, depV_len] at h2
        have hne : ts ≠ [] := fun z => by
          rw [z] at h2
          exact absurd h2 (by decide)
        obtain ⟨ts', t0, rfl⟩ := snoc_of hne
        have st8 := st6.mo e8
        obtain ⟨us, hu1, hu2⟩ := st8.code
        have hr8 := e8 _ _ hr6
        refine q_appP hu1 (ev_var rfl) (evp_word (ev_andOr (ev_op (ev_var rfl) ev_c (rv_ixL (sq_of hr8) (atI_ints (by decide) (by rw [rl]; decide)))) d9.1 d9.2) fun a H h => partAt_bin (K := K) _ h) (by rw [hu2.1, List.length_append]; show _ + 1 < _; omega) fun v2 H9 e9 hp2 => ?_
        generalize (!decide (rd.getD (9 : Int).toNat 0 = 0)) = sb at hp2
        have st9 := (st8.mo e9).push (e9 _ _ hu1) (hu2.mo e9) hp2
        have hr9 : (upd H9 pc (.lst (us ++ [v2]))) pr = some (.lst (rd.map V.int)) := by rw [upd_ne n1]; exact e9 _ _ hr8
        generalize upd H9 pc (.lst (us ++ [v2])) = H10 at st9 hr9 ⊢
        refine q_pop (i := 6) rfl st9.deps ?_
        have st10 := st9.dep (dv' := depV (ts' ++ [t0]))
        have hr10 : (upd H10 pq (.lst (depV (ts' ++ [t0])))) pr = some (.lst (rd.map V.int)) := by rw [upd_ne n2]; exact hr9
        generalize upd H10 pq (.lst (depV (ts' ++ [t0]))) = H11 at st10 hr10 ⊢
        have dd := st10.deps
        rw [depV_snoc] at dd
        have tl' : ts'.length + 1 ≤ i := by
          rw [List.length_append] at tl
          exact tl
        refine s_popMax (i := 6) (j := 9) rfl rfl dd (by rw [depV_len]; omega) ?_
        have st11 := st10.dep (dv' := depV ts' ++ [V.int ((if (1 : Int) > ((t0.depth : Nat) : Int) then 1 else ((t0.depth : Nat) : Int)) + 1)])
        have e1' : depV (ts' ++ [Cl.bin sb t0 (.is lf lg lh lr lm)]) = depV ts' ++ [V.int ((if (1 : Int) > ((t0.depth : Nat) : Int) then 1 else ((t0.depth : Nat) : Int)) + 1)] := by
          rw [depV_snoc, Cl.depth_bin]
          have k := max_int t0.depth 1
          rw [show (((1 : Nat) : Int)) = 1 from rfl] at k
          rw [k] <;> rfl
        have e2' : flat (ts' ++ [Cl.bin sb t0 (.is lf lg lh lr lm)]) = flat (ts' ++ [t0]) ++ [Pt.is lf lg lh lr lm] ++ [Pt.bin sb] := by
          rw [flat_snoc, flat_snoc, Cl.post_bin, List.append_assoc, List.append_assoc, List.append_assoc] <;> rfl
        rw [← e1', ← e2'] at st11
        rw [← e1']
        have g0 := gd.right
        have hl0 := t0.leaves_pos
        refine ⟨_, ts' ++ [Cl.bin sb t0 (.is lf lg lh lr lm)], rfl, st11, gd.left.snoc (Cl.ok_bin sb g0.1 lok) ?_, ?_, fun z => by simp at z, ?_, ?_⟩
        · rw [Cl.depth_bin, Cl.leaves_bin]
          show max t0.depth 1 + 1 ≤ t0.leaves + 1 + 2
          have := t0.pos
          have := g0.2
          omega
        · rw [many1_snoc] at hm1
          rw [many1_snoc, Cl.leaves_bin]
          show many1 ts' + (t0.leaves + 1) = i + 1
          omega
        · intro r t hrt h1
          have := (List.append_inj' hrt rfl).2
          have e := (List.cons.inj this).1
          rw [← e, Cl.leaves_bin] at h1
          have h1' : t0.leaves + 1 = 1 := h1
          omega
        · rw [upd_ne n2]
          exact hr10
      · refine ⟨_, ts ++ [.is lf lg lh lr lm], rfl, ?_, gd.snoc (t := .is lf lg lh lr lm) lok (by show 1 ≤ 1 + 2; decide), ?_, fun z => by simp at z, ?_, e8 _ _ hr6⟩
        · rw [flat_snoc, depV_snoc]
          exact st6.mo e8
        · rw [many1_snoc, hm1] <;> rfl
        · intro r t hrt h1
          have := (List.append_inj' hrt rfl).2
          have e := (List.cons.inj this).1
          rw [← e] <;> rfl
    · rintro σ' H' ⟨o, us, rfl, stu, gu, hmu, hne, htop, hru⟩
      obtain ⟨r, t, rfl⟩ := snoc_of hne
      have gt := gu.right
      have ul : r.length + 1 ≤ i + 1 := by
        have := many1_le (r ++ [t])
        rw [List.length_append, hmu] at this
        exact this
      have fu := gu.len (by omega)
      have dd := stu.deps
      rw [depV_snoc] at dd
      refine s_when (et_and (et_test (ev_intEq (ev_op (ev_var rfl) ev_c (rv_ixL (sq_of hru) (atI_ints (by decide) (by rw [rl]; decide)))) ev_c)) fun _ => et_test (ev_op (ev_op (ev_var rfl) (ev_un ev_c ru_neg) (rv_ixL (sq_of dd) (atI_last _ _))) ev_c rv_I0)) (fun hb H8 e8 => ?_) fun hb H8 e8 => ?_
      · have h4 := of_decide_eq_true (Bool.and_eq_true_iff.mp hb).2
        have st8 := stu.mo e8
        obtain ⟨ws, hw1, hw2⟩ := st8.code
        refine q_appP hw1 (ev_var rfl) (evp_word (K := K) (p := .not) ev_c fun a H h => ⟨a, rfl, h⟩) (by rw [hw2.1]; omega) fun v2 H9 e9 hp2 => ?_
        have st9 := (st8.mo e9).push (e9 _ _ hw1) (hw2.mo e9) hp2
        generalize upd H9 pc (.lst (ws ++ [v2])) = H10 at st9 ⊢
        have dd9 := st9.deps
        rw [depV_snoc] at dd9
        refine s_popOne (i := 6) rfl dd9 (by rw [depV_len]; omega) ?_
        have st10 := st9.dep (dv' := depV r ++ [V.int (((t.depth : Nat) : Int) + 1)])
        have e1' : depV (r ++ [.not t]) = depV r ++ [V.int (((t.depth : Nat) : Int) + 1)] := by rw [depV_snoc] <;> rfl
        have e2' : flat (r ++ [.not t]) = flat (r ++ [t]) ++ [Pt.not] := by rw [flat_snoc, flat_snoc, List.append_assoc] <;> rfl
        rw [← e1', ← e2'] at st10
        rw [← e1']
        refine ⟨_, _, _, r ++ [.not t], rfl, st10, gu.left.snoc gt.1 ?_, ?_⟩
        · show t.depth + 1 ≤ t.leaves + 2
          have := t.leaves_pos
          by_cases h1 : t.leaves = 1
          · have := htop r t rfl h1
            omega
          · omega
        · rw [many1_snoc] at hmu ⊢
          exact hmu
      · exact ⟨_, _, _, r ++ [t], rfl, stu.mo e8, gu, hmu⟩
  · rintro σ' H' ⟨o7, o8, o9, ts, rfl, st, gd, hm1⟩
    have tn : many1 ts ≤ most := by rw [hm1]; omega
    have t1 : 1 ≤ many1 ts := by rw [hm1]; omega
    have tne : ts ≠ [] := fun z => by
      rw [z] at t1
      exact absurd t1 (by decide)
    have tlen := many1_le ts
    have tpos : 1 ≤ ts.length := List.length_pos_iff.mpr tne
    clear hm1
    refine q_forR1 (n := ((depV ts).length : Int) - 1) (ea_cons (ev_op (ev_lenQ (ev_var rfl) (.inl (sq_of st.deps))) ev_c rv_I0) ea_nil) (by rw [depV_len]; omega)
      (fun i σ' H' => ∃ (o7 o8 o9 : Option V) (us : List Cl), σ' = [some (.int c), some (.ref pn), some (.ref pm), some (.int (most : Int)), some (.ref pd), some (.ref pc), some (.ref pq), o7, o8, o9] ∧ Stk K H1 pc pq H' (flat us) (depV us) ∧ Good us ∧ many1 us = many1 ts ∧ us.length + i = ts.length)
      (fun H4 e4 => ⟨o7, o8, o9, ts, rfl, st.mo e4, gd, rfl, rfl⟩) ?_ ?_
    · rintro i σ' H' hi ⟨p7, p8, p9, us, rfl, su, gu, hmu, hlu⟩
      rw [depV_len] at hi
      have une : us ≠ [] := fun z => by
        rw [z] at hlu
        have : 0 + i = ts.length := hlu
        omega
      obtain ⟨us1, tb, rfl⟩ := snoc_of une
      rw [List.length_append] at hlu
      have hlu' : us1.length + 1 + i = ts.length := hlu
      have une1 : us1 ≠ [] := fun z => by
        rw [z] at hlu'
        have : 0 + 1 + i = ts.length := hlu'
        omega
      obtain ⟨us2, ta, rfl⟩ := snoc_of une1
      rw [List.length_append] at hlu'
      have hlu2 : us2.length + 1 + 1 + i = ts.length := hlu'
      have hdq : SqL K H' pd (ds.map V.int) := sq_of (su.ex _ _ hd)
      have d10 : 0 ≤ ds.getD (10 + 10 * (i : Int)).toNat 0 ∧ ds.getD (10 + 10 * (i : Int)).toNat 0 < 2 := by
        have k := ok.at (j := 10 + 10 * (i : Int)) (by omega) (by show 10 + 10 * (i : Int) < 51; omega)
        have hi' : i = 0 ∨ i = 1 ∨ i = 2 ∨ i = 3 := by omega
        rcases hi' with rfl | rfl | rfl | rfl <;> exact k
      obtain ⟨ws, hw1, hw2⟩ := su.code
      have fu := gu.len (by omega)
      refine q_appP hw1 (ev_var rfl) (evp_word (ev_orAnd (ev_op (ev_var rfl) (ev_op ev_c (ev_mul ev_c (ev_var rfl) (.inl ⟨by decide, by decide⟩)) rv_I0) (rv_ixL hdq (atI_ints (by omega) (by rw [dl]; omega)))) d10.1 d10.2) fun a H h => partAt_bin (K := K) _ h) (by rw [hw2.1]; omega) fun v2 H9 e9 hp2 => ?_
      generalize decide (ds.getD (10 + 10 * (i : Int)).toNat 0 = 0) = sb at hp2
      have st9 := (su.mo e9).push (e9 _ _ hw1) (hw2.mo e9) hp2
      generalize upd H9 pc (.lst (ws ++ [v2])) = H10 at st9 ⊢
      have dd9 := st9.deps
      rw [depV_snoc] at dd9
      refine q_pop (i := 6) rfl dd9 ?_
      have st10 := st9.dep (dv' := depV (us2 ++ [ta]))
      generalize upd H10 pq (.lst (depV (us2 ++ [ta]))) = H11 at st10 ⊢
      have dd := st10.deps
      rw [depV_snoc] at dd
      refine s_popMax (i := 6) (j := 9) rfl rfl dd (by rw [depV_len]; omega) ?_
      have st11 := st10.dep (dv' := depV us2 ++ [V.int ((if ((tb.depth : Nat) : Int) > ((ta.depth : Nat) : Int) then ((tb.depth : Nat) : Int) else ((ta.depth : Nat) : Int)) + 1)])
      have e1' : depV (us2 ++ [Cl.bin sb ta tb]) = depV us2 ++ [V.int ((if ((tb.depth : Nat) : Int) > ((ta.depth : Nat) : Int) then ((tb.depth : Nat) : Int) else ((ta.depth : Nat) : Int)) + 1)] := by
        rw [depV_snoc, Cl.depth_bin, max_int ta.depth tb.depth]
      have e2' : flat (us2 ++ [Cl.bin sb ta tb]) = flat (us2 ++ [ta] ++ [tb]) ++ [Pt.bin sb] := by
        rw [flat_snoc, flat_snoc, flat_snoc, Cl.post_bin, List.append_assoc, List.append_assoc, List.append_assoc] <;> simp
      rw [← e1', ← e2'] at st11
      rw [← e1']
      have ga := gu.left.right
      have gb := gu.right
      refine ⟨_, _, _, us2 ++ [Cl.bin sb ta tb], rfl, st11, gu.left.left.snoc (Cl.ok_bin sb ga.1 gb.1) ?_, ?_, ?_⟩
      · rw [Cl.depth_bin, Cl.leaves_bin]
        have := ta.leaves_pos
        have := tb.leaves_pos
        have := ga.2
        have := gb.2
        omega
      · rw [many1_snoc, many1_snoc] at hmu
        rw [many1_snoc, Cl.leaves_bin]
        omega
      · rw [List.length_append]
        show us2.length + 1 + (i + 1) = ts.length
        omega
    · rintro σ' H' ⟨p7, p8, p9, us, rfl, su, gu, hmu, hlu⟩
      rw [depV_len] at hlu
      have hl1 : us.length = 1 := by omega
      match us, hl1 with
      | [t], _ =>
        have gt := gu t (List.mem_singleton.mpr rfl)
        have hq : H' pq = some (.lst [V.int (t.depth : Nat)]) := su.deps
        have hm2 : t.leaves = many1 ts := by
          rw [← hmu]
          show t.leaves = t.leaves + 0
          omega
        refine s_retP (evp_U (eu_tup (ea_cons (ev_var rfl) (ea_cons (ev_op (ev_var rfl) ev_c (rv_ixL (sq_of hq) (atI_zero _ _))) ea_nil)) (by show 2 ≤ 100000; decide)) (P := IsCodeD K t) fun p H9 e9 hp => ?_) fun v H9 e9 hv => q t gt.1 (by have := gt.2; omega) v H9 ((e1.trans su.ex).trans e9) hv
        obtain ⟨ws, hw1, hw2⟩ := su.code
        have ef : flat [t] = t.post := by
          show t.post ++ [] = t.post
          rw [List.append_nil]
        rw [ef] at hw2
        exact ⟨p, pc, rfl, st_of hp, ws, e9 _ _ hw1, hw2.mo e9⟩
end
end Kf

set_option Elab.async false
set_option linter.all false
set_option maxRecDepth 100000
set_option maxHeartbeats 4000000
namespace Kf
open PySem L2 Evl
abbrev wrapRow : List Int := [3, 3, 199, 199, 199, 12, 12, 2, 2]
abbrev wrapSizes : List Int := [3, 3, 199, 199, 199, 12, 12, 2, 2, 3, 3, 199, 199, 199, 12, 12, 2, 2, 3, 3, 199, 199, 199, 12, 12, 2, 2, 3, 3, 199, 199, 199, 12, 12, 2, 2, 3, 3, 199, 199, 199, 12, 12, 2, 2, 3, 3, 199, 199, 199, 12, 12, 2, 2,
  3, 3, 199, 199, 199, 12, 12, 2, 2, 3, 3, 199, 199, 199, 12, 12, 2, 2, 3, 3, 199, 199, 199, 12, 12, 2, 2, 3, 3, 199, 199, 199, 12, 12, 2, 2, 3, 3, 199, 199, 199, 12, 12, 2, 2, 3, 3, 199, 199, 199, 12, 12, 2, 2]
def spWrapped (K : PySem.W.Frag) : Sp := fun vs H Q _ => ∃ (pc pn pm : Addr) (t : Cl) (goal : Nat) (c : Int) (ms : List Int) (x y z : Int), vs = [.ref pc, .int (t.depth : Nat), .int (goal : Int), .int c, .ref pn, .ref pm] ∧ CodeAt K H pc t.post ∧ t.Ok ∧ t.depth ≤ goal ∧ goal ≤ 12 ∧
  Sq K H pn [.int x, .int y, .int z] ∧ SqL K H pm (ms.map V.int) ∧ MenuOk ms ∧ ∀ u : Cl, u.Ok → u.depth = goal → ∀ v H', Ex H H' → IsCode K u.post v H' → Q v H'
def spLcm (K : PySem.W.Frag) : Sp := fun vs H Q _ => ∃ (pc : Addr) (ps : List Pt), vs = [.ref pc] ∧ CodeAt K H pc ps ∧ (∀ p ∈ ps, PtOk p) ∧ RetV (.int (lcmP ps : Nat)) H Q
def spTrue (K : PySem.W.Frag) : Sp := fun vs H Q _ => ∃ (pc pr : Addr) (t : Cl) (x y z : Int), vs = [.ref pc, .ref pr] ∧ CodeAt K H pc t.post ∧ t.Ok ∧ t.depth ≤ 12 ∧ Sq K H pr [.int x, .int y, .int z] ∧ RetV (.bl (t.at x y z)) H Q
theorem wrap_rows {i : Nat} (h : i < 12) : (wrapSizes.drop (9 * i)).take 9 = wrapRow := by
  have k : i = 0 ∨ i = 1 ∨ i = 2 ∨ i = 3 ∨ i = 4 ∨ i = 5 ∨ i = 6 ∨ i = 7 ∨ i = 8 ∨ i = 9 ∨ i = 10 ∨ i = 11 := by omega
  rcases k with rfl | rfl | rfl | rfl | rfl | rfl | rfl | rfl | rfl | rfl | rfl | rfl <;> rfl
section
variable {P : Program} {w : World} {K : PySem.W.Frag} {mg : Str → Option Value} {base : Heap} {H : Hp}
/-- a part's first item is its word -/
def Pt.word : Pt → Str
  | .is .. => "is" | .not => "not" | .and => "and" | .or => "or"
theorem PartAt.head {v : V} {p : Pt} (h : PartAt K H v p) : ∃ a r, v = .ref a ∧ SqT K H a (.str p.word :: r) := by
  cases p with
  | is f g h r m => obtain ⟨a, b, x, y, z⟩ := h; exact ⟨a, _, x, y⟩
  | not => obtain ⟨a, x, y⟩ := h; exact ⟨a, _, x, y⟩
  | and => obtain ⟨a, x, y⟩ := h; exact ⟨a, _, x, y⟩
  | or => obtain ⟨a, x, y⟩ := h; exact ⟨a, _, x, y⟩
theorem df_wrapped (DLawDigits : Df P w K mg base CX0 "_law_digits" 1 ["cell", "sizes"] (spDigits K)) (DLawLeaf : Df P w K mg base CX0 "_law_leaf" 2 ["digits", "near", "menu"] (spLeaf K)) (B : Bi mg) (S : At K mg "_law_wrapped" sLawWrapped ["code", "depth", "goal", "cell", "near", "menu"]) :
    Df P w K mg base CX0 "_law_wrapped" 3 ["code", "depth", "goal", "cell", "near", "menu"] (spWrapped K) := by
  obtain ⟨f, fd, F, m, b⟩ := S
  refine ⟨f, fd, m, F.kp, b, F.ok scLawWrapped (fun vs H Q E h => ?_) (fun cdv A outer s H vs Q E hr h => ?_)⟩
  · obtain ⟨pc, pn, pm, t, goal, c, ms, x, y, z, rfl, _⟩ := h
    rfl
  obtain ⟨pc, pn, pm, t, goal, c, ms, x, y, z, rfl, hc, tok, tg, g12, hn, hm, om, q⟩ := h
  refine ⟨_, (pss_cons (ps_set (i := 6) scLawWrapped.nd rfl (Or.inl rfl) (pe_df DLawDigits hr pass0 (pa_cons (pv 3) (pa_cons (pe_op op_rep (pe_lst (pa_cons pe_int (pa_cons pe_int (pa_cons pe_int (pa_cons pe_int (pa_cons pe_int (pa_cons pe_int (pa_cons pe_int (pa_cons pe_int (pa_cons pe_int pa_nil)))))))))) pe_int) pa_nil))))
  (pss_cons (ps_for PassesOwn.never rfl (pi_range1 rfl B.range (pa_cons (pe_op op_sub (pv 2) (pv 1)) pa_nil)) (pg_name (i := 7) scLawWrapped.nd rfl (Or.inl rfl)) (pss_cons (ps_set (i := 8) scLawWrapped.nd rfl (Or.inl rfl) (pe_slice sl_list (pv 6) (po_some (pe_op op_mul pe_int (pv 7))) (po_some (pe_op op_add (pe_op op_mul pe_int (pv 7)) pe_int))))
  (pss_cons (ps_set (i := 9) scLawWrapped.nd rfl (Or.inl rfl) (pe_df DLawLeaf hr pass0 (pa_cons (pe_lst (pa_cons (pe_ix ix_list (pv 8) pe_int (fun _ _ => rfl)) (pa_cons (pe_ix ix_list (pv 8) pe_int (fun _ _ => rfl)) (pa_cons (pe_ix ix_list (pv 8) pe_int (fun _ _ => rfl)) (pa_cons (pe_ix ix_list (pv 8) pe_int (fun _ _ => rfl)) (pa_cons (pe_ix ix_list (pv 8) pe_int (fun _ _ => rfl)) (pa_cons (pe_ix ix_list (pv 8) pe_int (fun _ _ => rfl)) (pa_cons (pe_ix ix_list (pv 8) pe_int (fun _ _ => rfl)) pa_nil)))))))) (pa_cons (pv 4) (pa_cons (pv 5) pa_nil)))))
  (pss_cons (ps_set (i := 10) scLawWrapped.nd rfl (Or.inl rfl) (pe_ix ix_list (pe_lst (pa_cons pe_str (pa_cons pe_str pa_nil))) (pe_ix ix_list (pv 8) pe_int (fun _ _ => rfl)) (fun _ _ => rfl)))
  (pss_one (ps_if (pt_cmpR op_eq (pe_ix ix_list (pv 8) pe_int (fun _ _ => rfl)) pe_int (nomark _)) (pss_one (ps_set (i := 0) scLawWrapped.nd rfl (Or.inl rfl) (pe_op op_cat (pv 0) (pe_lst (pa_cons (pe_tup (pa_cons pe_str pa_nil)) pa_nil))))) (pss_one (ps_if (pt_cmpR op_eq (pe_ix ix_list (pv 8) pe_int (fun _ _ => rfl)) pe_int (nomark _)) (pss_one (ps_set (i := 0) scLawWrapped.nd rfl (Or.inl rfl) (pe_op op_cat (pv 0) (pe_lst (pa_cons (pv 9) (pa_cons (pe_tup (pa_cons (pv 10) pa_nil)) pa_nil)))))) (pss_one (ps_set (i := 0) scLawWrapped.nd rfl (Or.inl rfl) (pe_op op_cat (pe_op op_cat (pe_lst (pa_cons (pv 9) pa_nil)) (pv 0)) (pe_lst (pa_cons (pe_tup (pa_cons (pv 10) pa_nil)) pa_nil)))))))))))))
  (pss_one (ps_ret (pv 0))))), ?_⟩
  refine q_asgP (evp_digits wrapSizes (ev_var rfl) (el_rep (el_lst (ea_cons ev_c (ea_cons ev_c (ea_cons ev_c (ea_cons ev_c (ea_cons ev_c (ea_cons ev_c (ea_cons ev_c (ea_cons ev_c (ea_cons ev_c ea_nil))))))))) (by show 9 ≤ 100000; decide)) ev_c (by decide) (by decide) (by show 9 * 12 ≤ 100000; decide)) rfl (by decide) (by decide)) fun v H1 e1 hv => ?_
  obtain ⟨pd, ds, rfl, ok, hd⟩ := hv
  have dl : ds.length = 108 := ok.1
  have tpos := t.pos
  refine q_forR1 (n := (goal : Int) - ((t.depth : Nat) : Int)) (ea_cons (ev_op (ev_var rfl) (ev_var rfl) rv_I0) ea_nil) (by omega)
    (fun i σ' H' => ∃ (pc' : Addr) (u : Cl) (o7 o8 o9 o10 : Option V), σ' = [some (.ref pc'), some (.int (t.depth : Nat)), some (.int (goal : Int)), some (.int c), some (.ref pn), some (.ref pm), some (.ref pd), o7, o8, o9, o10] ∧ CodeAt K H' pc' u.post ∧ u.Ok ∧ u.depth = t.depth + i ∧ Ex H1 H')
    (fun H2 e2 => ⟨pc, t, none, none, none, none, rfl, (hc.mo e1).mo e2, tok, rfl, e2⟩) ?_ ?_
  · rintro i σ' H' hi ⟨pc', u, o7, o8, o9, o10, rfl, hcu, uok, hud, e2⟩
    have i12 : i < 12 := by omega
    have hdq : SqL K H' pd (ds.map V.int) := sq_of (e2 _ _ hd)
    have rok : DigOk wrapRow ((ds.drop (9 * i)).take 9) := by
      have k := ok.slice (9 * i) 9
      rw [wrap_rows i12] at k
      exact k
    refine q_asgL (el_sl (ev_var rfl) (eo_some (ev_mul ev_c (ev_var rfl) (.inl ⟨by decide, by decide⟩))) (eo_some (ev_op (ev_mul ev_c (ev_var rfl) (.inl ⟨by decide, by decide⟩)) ev_c rv_I0)) hdq) fun pr H4 hpr e4 hr4 => ?_
    rw [cut_ints (9 * i) (9 * i + 9) (by omega) (by omega) (by omega) (by rw [dl]; omega), show 9 * i + 9 - 9 * i = 9 by omega] at hr4
    generalize (ds.drop (9 * i)).take 9 = rd at hr4 rok
    have rl : rd.length = 9 := rok.1
    match rd, rl with
    | [r0, r1, r2, r3, r4, r5, r6, r7, r8], _ =>
    have hr4q : SqL K H4 pr [.int r0, .int r1, .int r2, .int r3, .int r4, .int r5, .int r6, .int r7, .int r8] := sq_of hr4
    have lok7 : DigPre leafSizes [r1, r2, r3, r4, r5, r6, r7] := ⟨Nat.le_refl 7, fun j s d hs hd' => rok.2 (j + 1) s d (by
      have hj : j < 7 := (List.getElem?_eq_some_iff.mp hs).1
      have k : j = 0 ∨ j = 1 ∨ j = 2 ∨ j = 3 ∨ j = 4 ∨ j = 5 ∨ j = 6 := by omega
      rcases k with rfl | rfl | rfl | rfl | rfl | rfl | rfl <;> exact hs) (by
      have hj : j < 7 := (List.getElem?_eq_some_iff.mp hs).1
      have k : j = 0 ∨ j = 1 ∨ j = 2 ∨ j = 3 ∨ j = 4 ∨ j = 5 ∨ j = 6 := by omega
      rcases k with rfl | rfl | rfl | rfl | rfl | rfl | rfl <;> exact hd')⟩
    have b0 := rok.2 0 3 r0 rfl rfl
    have b8 := rok.2 8 2 r8 rfl rfl
    have ix : ∀ {H' : Hp} {j : Int} {v : V} {σ : L2.St}, Ex H4 H' → σ[8]? = some (some (.ref pr)) → atI [V.int r0, .int r1, .int r2, .int r3, .int r4, .int r5, .int r6, .int r7, .int r8] j = some v → Ev (tOp (rIxL K) (tVar 8) (tC (.int j))) σ H' v := fun e hs h => ev_op (ev_var hs) ev_c (rv_ixL (ex_l e hr4q) h)
    refine q_asgP (evp_callP (R := fun vs H5 => ∃ pl, vs = [.ref pl, .ref pn, .ref pm] ∧ H5 pl = some (.lst (([r1, r2, r3, r4, r5, r6, r7] : List Int).map V.int))) ?_ fun vs H5 e5 hv => ?_) (P := IsLeaf K) fun v H5 e5 hleaf => ?_
    · refine eap_cons (P := IsL (([r1, r2, r3, r4, r5, r6, r7] : List Int).map V.int)) (evp_L (el_lst (ea_cons (ix (Ex.refl _) rfl rfl) (ea_cons (ix (Ex.refl _) rfl rfl) (ea_cons (ix (Ex.refl _) rfl rfl) (ea_cons (ix (Ex.refl _) rfl rfl) (ea_cons (ix (Ex.refl _) rfl rfl) (ea_cons (ix (Ex.refl _) rfl rfl) (ea_cons (ix (Ex.refl _) rfl rfl) ea_nil))))))) (by show 7 ≤ 100000; decide)) fun p H2 _ h2 => ⟨p, rfl, h2⟩) fun v H5 e5 hv => ?_
      obtain ⟨pl, rfl, hpl⟩ := hv
      exact fun H6 e6 Q' q' => ⟨_, rfl, _, rfl, q' [.ref pn, .ref pm] H6 (Ex.refl H6) ⟨pl, rfl, e6 _ _ hpl⟩⟩
    · obtain ⟨pl, rfl, hpl⟩ := hv
      exact sv_leaf (sq_of hpl) lok7 ((((hn.ex e1).ex e2).ex e4).ex e5) (ex_l (((e1.trans e2).trans e4).trans e5) hm) om
    obtain ⟨lf, lg, lh, lr, lm, lok, lat⟩ := hleaf
    have e14 := (e2.trans e4).trans e5
    have hcu5 := (hcu.mo e4).mo e5
    have pl := Cl.post_small (c := u) (by omega)
    have done : ∀ {H9 : Hp} {pc2 : Addr} {u' : Cl} {o7 o8 o9 o10 : Option V}, CodeAt K H9 pc2 u'.post → u'.Ok → u'.depth = u.depth + 1 → Ex H5 H9 → ∃ (pc' : Addr) (u : Cl) (o7' o8' o9' o10' : Option V), [some (.ref pc2), some (.int (t.depth : Nat)), some (.int (goal : Int)), some (.int c), some (.ref pn), some (.ref pm), some (.ref pd), o7, o8, o9, o10] =
        [some (.ref pc'), some (.int (t.depth : Nat)), some (.int (goal : Int)), some (.int c), some (.ref pn), some (.ref pm), some (.ref pd), o7', o8', o9', o10'] ∧ CodeAt K H9 pc' u.post ∧ u.Ok ∧ u.depth = t.depth + (i + 1) ∧ Ex H1 H9 :=
      fun h1 h2 h3 h4 => ⟨_, _, _, _, _, _, rfl, h1, h2, by omega, e14.trans h4⟩
    refine q_asg (ev_andOr (ix e5 rfl rfl) b8.1 b8.2) fun H6 e6 => ?_
    generalize (!decide (r8 = 0)) = sb
    refine s_if (et_test (ev_intEq (ix (e5.trans e6) rfl rfl) ev_c)) (fun hb H7 e7 => ?_) fun hb H7 e7 => ?_
    · refine s_asgP (evp_catC (K := K) (evp_var rfl fun H8 e8 => ⟨pc', rfl, ((hcu5.mo e6).mo e7).mo e8⟩) (fun H8 e8 => evp_lstC (eapt_cons (evp_word (K := K) (p := .not) ev_c fun a H h => ⟨a, rfl, h⟩) fun _ _ => eapt_nil) (by show 1 ≤ 100000; decide)) (by show _ + 1 ≤ _; omega)) fun v8 H8 e8 hv => ?_
      obtain ⟨pc2, rfl, hc2⟩ := hv
      exact done (u' := .not u) hc2 uok rfl ((e6.trans e7).trans e8)
    · refine s_if (et_test (ev_intEq (ix ((e5.trans e6).trans e7) rfl rfl) ev_c)) (fun hb2 H8 e8 => ?_) fun hb2 H8 e8 => ?_
      · have lat8 := (lat.mo ((e6.trans e7).trans e8))
        refine s_asgP (evp_catC (K := K) (evp_var rfl fun H9 e9 => ⟨pc', rfl, (((hcu5.mo e6).mo e7).mo e8).mo e9⟩) (fun H9 e9 => evp_lstC (eapt_cons (evp_var rfl fun H10 e10 => lat8.mo (e9.trans e10)) fun _ _ => eapt_cons (evp_word (K := K) (ev_var rfl) fun a H h => partAt_bin (K := K) sb h) fun _ _ => eapt_nil) (by show 2 ≤ 100000; decide)) (by show _ + 2 ≤ _; omega)) fun v9 H9 e9 hv => ?_
        obtain ⟨pc2, rfl, hc2⟩ := hv
        have ep : (Cl.bin sb u (.is lf lg lh lr lm)).post = u.post ++ [Pt.is lf lg lh lr lm, Pt.bin sb] := by rw [Cl.post_bin, List.append_assoc] <;> rfl
        rw [← ep] at hc2
        exact done hc2 (Cl.ok_bin sb uok lok) (by rw [Cl.depth_bin]; show max u.depth 1 + 1 = _; have := u.pos; omega) (((e6.trans e7).trans e8).trans e9)
      · have lat8 := (lat.mo ((e6.trans e7).trans e8))
        refine s_asgP (evp_catC (K := K) (evp_catC (K := K) (evp_lstC (eapt_cons (evp_var rfl fun H10 e10 => lat8.mo e10) fun _ _ => eapt_nil) (by show 1 ≤ 100000; decide)) (fun H9 e9 => evp_var rfl fun H10 e10 => ⟨pc', rfl, (((hcu5.mo e6).mo e7).mo e8).mo (e9.trans e10)⟩) (by show 1 + _ ≤ _; omega))
          (fun H9 e9 => evp_lstC (eapt_cons (evp_word (K := K) (ev_var rfl) fun a H h => partAt_bin (K := K) sb h) fun _ _ => eapt_nil) (by show 1 ≤ 100000; decide)) (by rw [List.length_append]; show 1 + _ + 1 ≤ _; omega)) fun v9 H9 e9 hv => ?_
        obtain ⟨pc2, rfl, hc2⟩ := hv
        have ep : (Cl.bin sb (.is lf lg lh lr lm) u).post = [Pt.is lf lg lh lr lm] ++ u.post ++ [Pt.bin sb] := Cl.post_bin sb _ _
        rw [← ep] at hc2
        exact done hc2 (Cl.ok_bin sb lok uok) (by rw [Cl.depth_bin]; show max 1 u.depth + 1 = _; have := u.pos; omega) (((e6.trans e7).trans e8).trans e9)
  · rintro σ' H' ⟨pc', u, o7, o8, o9, o10, rfl, hcu, uok, hud, e2⟩
    exact s_ret (ev_var rfl) fun H3 e3 => q u uok (by omega) _ _ ((e1.trans e2).trans e3) ⟨pc', rfl, hcu.mo e3⟩
abbrev sLawLcm : Stmt := top 36
theorem scLawLcm : FnScope ["code", "many", "part"] ["code"] (defScope sLawLcm) := ⟨rfl, rfl, rfl, by decide +kernel, rfl, by decide +kernel, by decide +kernel⟩
theorem df_lawLcm (DLawGcd : Df P w K mg base CX0 "_law_gcd" 1 ["one", "two"] spGcd) (S : At K mg "_law_lcm" sLawLcm ["code"]) : Df P w K mg base CX0 "_law_lcm" 2 ["code"] (spLcm K) := by
  obtain ⟨f, fd, F, m, b⟩ := S
  refine ⟨f, fd, m, F.kp, b, F.ok scLawLcm (fun vs H Q E h => ?_) (fun cdv A outer s H vs Q E hr h => ?_)⟩
  · obtain ⟨pc, ps, rfl, _⟩ := h
    rfl
  obtain ⟨pc, ps, rfl, ⟨vs, hv, hp⟩, hok, q⟩ := h
  refine ⟨_, (pss_cons (ps_set (i := 1) scLawLcm.nd rfl (Or.inl rfl) pe_int)
  (pss_cons (ps_for PassesOwn.never rfl (pi_list (pv 0)) (pg_name (i := 2) scLawLcm.nd rfl (Or.inl rfl)) (pss_one (ps_if (pt_cmpR op_eq (pe_ix ix_tup (pv 2) pe_int (fun _ _ => rfl)) pe_str (nomark _)) (pss_one (ps_set (i := 1) scLawLcm.nd rfl (Or.inl rfl) (pe_op op_fdiv (pe_op op_mul (pv 1) (pe_ix ix_tup (pv 2) pe_int (fun _ _ => rfl))) (pe_df DLawGcd hr pass0 (pa_cons (pv 1) (pa_cons (pe_ix ix_tup (pv 2) pe_int (fun _ _ => rfl)) pa_nil)))))) pss_nil)))
  (pss_one (ps_ret (pv 1))))), ?_⟩
  refine q_asg ev_c fun H1 e1 => ?_
  refine q_forLn (ev_var rfl) (sq_of (e1 _ _ hv)) (fun i σ' H' => ∃ o, σ' = [some (.ref pc), some (.int (lcmP (ps.take i) : Nat)), o] ∧ Ex H H') (fun H2 e2 => ⟨none, rfl, e1.trans e2⟩) (fun i σ' H' _ h => sq_of (h.choose_spec.2 _ _ hv)) ?_ ?_
  · rintro i v σ' H' hi ⟨o, rfl, e2⟩
    obtain ⟨p, hpi, hat⟩ := hp.2 i v hi
    have hat2 := hat.mo e2
    have hpo := hok p (mem_of_get hpi)
    have lt : lcmP (ps.take (i + 1)) = stepL (lcmP (ps.take i)) p := by
      unfold lcmP
      rw [take_one hpi, List.foldl_append] <;> rfl
    have l1 := lcmP_le (ps := ps.take i) fun p hp => hok p (List.mem_of_mem_take hp)
    cases p with
    | is f g h r m =>
      obtain ⟨a, b, rfl, h1, h2⟩ := hat2
      have lt' : lcmP (ps.take (i + 1)) = (lcmP (ps.take i)).lcm m.toNat := lt
      have hm := hpo.m0
      refine s_when (b := true) (et_test (ev_is (ev_strEq (ev_op (ev_var rfl) ev_c (rv_ixT h1 (atI_zero _ _))) ev_c) (by rw [decide_eq_true rfl]))) (fun _ H3 e3 => ?_) fun z => nomatch z
      have em : m = ((m.toNat : Nat) : Int) := by omega
      have h13 := ex_t e3 h1
      have gpos : 0 < Nat.gcd (lcmP (ps.take i)) m.toNat := Nat.gcd_pos_of_pos_left _ l1.2
      have gle : Nat.gcd (lcmP (ps.take i)) m.toNat ≤ lcmP (ps.take i) := Nat.le_of_dvd l1.2 (Nat.gcd_dvd_left _ _)
      refine s_asg (v := .int (lcmP (ps.take (i + 1)) : Nat)) (ev_is (ev_fdiv (j := ((Nat.gcd (lcmP (ps.take i)) m.toNat : Nat) : Int)) (ev_mul (ev_var rfl) (ev_op (ev_var rfl) ev_c (rv_ixT h13 rfl)) (.inl ⟨by omega, by omega⟩))
        (ev_callV (ea_cons (ev_var rfl) (ea_cons (ev_is (ev_op (ev_var rfl) ev_c (rv_ixT h13 rfl)) (by rw [← em])) ea_nil)) (sv_gcd (by omega))) ⟨by omega, by omega⟩) ?_) fun H4 e4 => ⟨_, rfl, (e2.trans e3).trans e4⟩
      rw [lt']
      congr 1
      rw [em, ← Int.natCast_mul, ← Int.natCast_ediv] <;> rfl
    | not =>
      obtain ⟨a, rfl, h1⟩ := hat2
      exact s_when (b := false) (et_test (ev_is (ev_strEq (ev_op (ev_var rfl) ev_c (rv_ixT h1 (atI_zero _ _))) ev_c) (by decide +kernel))) (fun z => nomatch z) fun _ H3 e3 => ⟨_, by rw [lt] <;> rfl, e2.trans e3⟩
    | and =>
      obtain ⟨a, rfl, h1⟩ := hat2
      exact s_when (b := false) (et_test (ev_is (ev_strEq (ev_op (ev_var rfl) ev_c (rv_ixT h1 (atI_zero _ _))) ev_c) (by decide +kernel))) (fun z => nomatch z) fun _ H3 e3 => ⟨_, by rw [lt] <;> rfl, e2.trans e3⟩
    | or =>
      obtain ⟨a, rfl, h1⟩ := hat2
      exact s_when (b := false) (et_test (ev_is (ev_strEq (ev_op (ev_var rfl) ev_c (rv_ixT h1 (atI_zero _ _))) ev_c) (by decide +kernel))) (fun z => nomatch z) fun _ H3 e3 => ⟨_, by rw [lt] <;> rfl, e2.trans e3⟩
  · rintro σ' H' ⟨o, rfl, e2⟩
    refine s_ret (ev_var rfl) fun H3 e3 => ?_
    rw [hp.1, List.take_length]
    exact q _ (e2.trans e3)
abbrev sLawTrue : Stmt := top 37
theorem scLawTrue : FnScope ["code", "row", "stack", "part", "two", "one"] ["code", "row"] (defScope sLawTrue) := ⟨rfl, rfl, rfl, by decide +kernel, rfl, by decide +kernel, by decide +kernel⟩
theorem bin_true {x : Int} {y : Int} : x = y ↔ y = x := ⟨Eq.symm, Eq.symm⟩
theorem rest_zero {s r m : Int} (h : 0 ≤ r ∧ r ≤ m - 1) : decide ((s - r) % m = 0) = decide (s % m = r) := by
  rw [decide_eq_decide]
  constructor
  · intro k
    have h1 : (s - r) % m = (s % m - r % m) % m := Int.sub_emod s r m
    have h2 : r % m = r := Int.emod_eq_of_lt h.1 (by omega)
    have d : m ∣ s - r := Int.dvd_of_emod_eq_zero k
    obtain ⟨c, hc⟩ := d
    have e : s = r + m * c := by omega
    rw [e, Int.add_mul_emod_self_left, h2]
  · intro k
    have e := Int.emod_add_mul_ediv s m
    have : s - r = m * (s / m) := by omega
    rw [this, Int.mul_emod_right]
theorem df_lawTrue (DLawDot : Df P w K mg base CX0 "_law_dot" 1 ["one", "two"] (spDot K)) (B : Bi mg) (S : At K mg "_law_true" sLawTrue ["code", "row"]) : Df P w K mg base CX0 "_law_true" 2 ["code", "row"] (spTrue K) := by
  obtain ⟨f, fd, F, m, b⟩ := S
  refine ⟨f, fd, m, F.kp, b, F.ok scLawTrue (fun vs H Q E h => ?_) (fun cdv A outer s H vs Q E hr h => ?_)⟩
  · obtain ⟨pc, pr, t, x, y, z, rfl, _⟩ := h
    rfl
  obtain ⟨pc, pr, t, x, y, z, rfl, ⟨vs, hv, hp⟩, tok, td, hrow, q⟩ := h
  refine ⟨_, (pss_cons (ps_set (i := 2) scLawTrue.nd rfl (Or.inl rfl) (pe_lst pa_nil))
  (pss_cons (ps_for PassesOwn.never rfl (pi_list (pv 0)) (pg_name (i := 3) scLawTrue.nd rfl (Or.inl rfl)) (pss_one (ps_if (pt_cmpR op_eq (pe_ix ix_tup (pv 3) pe_int (fun _ _ => rfl)) pe_str (nomark _)) (pss_one (ps_expr (pe_bm PySem.F.plainAttrs_list PySem.F.slot_list_append PySem.F.type_list_append mt_append (pv 2) (pa_cons (pe_cmpR op_eq (pe_op op_mod (pe_callTy call_int1 rfl B.int PyProof.Rows.boot_int (pa_cons (pe_op op_sub (pe_df DLawDot hr pass0 (pa_cons (pe_ix ix_tup (pv 3) pe_int (fun _ _ => rfl)) (pa_cons (pv 1) pa_nil))) (pe_ix ix_tup (pv 3) pe_int (fun _ _ => rfl))) pa_nil)) (pe_ix ix_tup (pv 3) pe_int (fun _ _ => rfl))) pe_int (nomark _)) pa_nil)))) (pss_one (ps_if (pt_cmpR op_eq (pe_ix ix_tup (pv 3) pe_int (fun _ _ => rfl)) pe_str (nomark _)) (pss_one (ps_expr (pe_bm PySem.F.plainAttrs_list PySem.F.slot_list_append PySem.F.type_list_append mt_append (pv 2) (pa_cons (pe_not (pe_bm0 PySem.F.plainAttrs_list PySem.F.slot_list_pop PySem.F.type_list_pop mt_pop (pv 2))) pa_nil)))) (pss_cons (ps_set (i := 4) scLawTrue.nd rfl (Or.inl rfl) (pe_bm0 PySem.F.plainAttrs_list PySem.F.slot_list_pop PySem.F.type_list_pop mt_pop (pv 2)))
  (pss_cons (ps_set (i := 5) scLawTrue.nd rfl (Or.inl rfl) (pe_bm0 PySem.F.plainAttrs_list PySem.F.slot_list_pop PySem.F.type_list_pop mt_pop (pv 2)))
  (pss_one (ps_if (pt_cmpR op_eq (pe_ix ix_tup (pv 3) pe_int (fun _ _ => rfl)) pe_str (nomark _)) (pss_one (ps_expr (pe_bm PySem.F.plainAttrs_list PySem.F.slot_list_append PySem.F.type_list_append mt_append (pv 2) (pa_cons (pe_and (pv 5) (pe_one (pv 4))) pa_nil)))) (pss_one (ps_expr (pe_bm PySem.F.plainAttrs_list PySem.F.slot_list_append PySem.F.type_list_append mt_append (pv 2) (pa_cons (pe_or (pv 5) (pe_one (pv 4))) pa_nil)))))))))))))
  (pss_one (ps_ret (pe_ix ix_list (pv 2) pe_int (fun _ _ => rfl)))))), ?_⟩
  have hpar := parse_post t []
  have plen := Cl.post_small td
  refine q_asgL (el_lst ea_nil (Nat.zero_le _)) fun ps H1 hps e1 hs1 => ?_
  refine q_forLn (ev_var rfl) (sq_of (e1 _ _ hv)) (fun i σ' H' => ∃ (o3 o4 o5 : Option V) (ts : List Cl), σ' = [some (.ref pc), some (.ref pr), some (.ref ps), o3, o4, o5] ∧ parse (t.post.take i) [] = some ts ∧ H' ps = some (.lst ((ts.map fun c => V.bl (c.at x y z)).reverse)) ∧ ts.length ≤ i ∧ Ex H H')
    (fun H2 e2 => ⟨none, none, none, [], rfl, by rw [List.take_zero] <;> rfl, e2 _ _ hs1, Nat.le_refl 0, e1.trans e2⟩) (fun i σ' H' _ h => sq_of (h.choose_spec.choose_spec.choose_spec.choose_spec.2.2.2.2 _ _ hv)) ?_ ?_
  · rintro i v σ' H' hi ⟨o3, o4, o5, ts, rfl, hts, hst, hln, e2⟩
    obtain ⟨p, hpi, hat⟩ := hp.2 i v hi
    have hat2 := hat.mo e2
    have hil := (List.getElem?_eq_some_iff.mp hpi).1
    have hpo := Cl.pts tok p (mem_of_get hpi)
    obtain ⟨us, hstep, hus⟩ := parse_next hpar hpi hts
    cases p with
    | is f g h r m =>
      obtain ⟨a, b, rfl, h1, h2⟩ := hat2
      cases hstep
      refine s_if (b := true) (et_test (ev_is (ev_strEq (ev_op (ev_var rfl) ev_c (rv_ixT h1 (atI_zero _ _))) ev_c) (by rw [decide_eq_true rfl]))) (fun _ H3 e3 => ?_) fun z => nomatch z
      have h13 := ex_t e3 h1
      refine s_app (v := .bl ((Cl.is f g h r m).at x y z)) (e3 _ _ hst) (ev_var rfl) (ev_is (ev_intEq (ev_mod (ev_int (ev_op (ev_callV (ea_cons (ev_op (ev_var rfl) ev_c (rv_ixT h13 rfl)) (ea_cons (ev_var rfl) ea_nil)) (sv_dot (.inr (ex_t e3 h2)) ((hrow.ex e2).ex e3) hpo.f0 hpo.g0 hpo.h0)) (ev_op (ev_var rfl) ev_c (rv_ixT h13 rfl)) rv_I0)) (ev_op (ev_var rfl) ev_c (rv_ixT h13 rfl)) (by have := hpo.m0; omega)) ev_c)
        (congrArg V.bl (rest_zero hpo.r0))) (by rw [List.length_reverse, List.length_map]; omega) fun H4 e4 => ?_
      refine ⟨_, _, _, _, rfl, hus, ?_, by rw [List.length_cons]; omega, Ex.mut ((e2.trans e3).trans e4) hps⟩
      rw [List.map_cons, List.reverse_cons]
      exact upd_same
    | not =>
      obtain ⟨a, rfl, h1⟩ := hat2
      obtain ⟨c, ts, rfl, rfl⟩ := step_not hstep
      rw [List.map_cons, List.reverse_cons] at hst
      refine s_if (b := false) (et_test (ev_is (ev_strEq (ev_op (ev_var rfl) ev_c (rv_ixT h1 (atI_zero _ _))) ev_c) (by decide +kernel))) (fun z => nomatch z) fun _ H3 e3 => ?_
      have hst3 := e3 _ _ hst
      refine s_if (b := true) (et_test (ev_is (ev_strEq (ev_op (ev_var rfl) ev_c (rv_ixT (ex_t e3 h1) (atI_zero _ _))) ev_c) (by decide +kernel))) (fun _ H4 e4 => ?_) fun z => nomatch z
      have hst4 := e4 _ _ hst3
      have ln : ((ts.map fun c => V.bl (c.at x y z)).reverse).length < 100000 := by
        rw [List.length_reverse, List.length_map]
        rw [List.length_cons] at hln
        omega
      refine ⟨_, rfl, Or.inl ⟨rfl, _, sq_of hst4⟩, _, rfl, Or.inl ⟨rfl, _, sq_of hst4⟩, ps, _, _, rfl, rfl, hst4, last_snoc _ _, _, rfl, ps, _, _, rfl, rfl, upd_same, ?_, ?_⟩
      · rw [List.dropLast_concat]
        exact sz_lt ln
      · rw [upd_upd, List.dropLast_concat]
        refine ⟨_, _, _, _, rfl, hus, ?_, by rw [List.length_cons] at hln ⊢; omega, Ex.mut ((e2.trans e3).trans e4) hps⟩
        rw [List.map_cons, List.reverse_cons]
        exact upd_same
    | and =>
      obtain ⟨a, rfl, h1⟩ := hat2
      obtain ⟨c2, c1, ts, rfl, rfl⟩ := step_and hstep
      rw [List.map_cons, List.map_cons, List.reverse_cons, List.reverse_cons] at hst
      refine s_if (b := false) (et_test (ev_is (ev_strEq (ev_op (ev_var rfl) ev_c (rv_ixT h1 (atI_zero _ _))) ev_c) (by decide +kernel))) (fun z => nomatch z) fun _ H3 e3 => ?_
      refine s_if (b := false) (et_test (ev_is (ev_strEq (ev_op (ev_var rfl) ev_c (rv_ixT (ex_t e3 h1) (atI_zero _ _))) ev_c) (by decide +kernel))) (fun z => nomatch z) fun _ H4 e4 => ?_
      have h14 := ex_t (e3.trans e4) h1
      refine q_pop (i := 2) rfl (e4 _ _ (e3 _ _ hst)) ?_
      have h15 := sqT_upd (o := .lst ((ts.map fun c => V.bl (c.at x y z)).reverse ++ [V.bl (c1.at x y z)])) h14 (e4 _ _ (e3 _ _ hst))
      refine q_pop (i := 2) rfl upd_same ?_
      rw [upd_upd]
      have h16 := sqT_upd (o := .lst ((ts.map fun c => V.bl (c.at x y z)).reverse)) h14 (e4 _ _ (e3 _ _ hst))
      refine s_if (b := true) (et_test (ev_is (ev_strEq (ev_op (ev_var rfl) ev_c (rv_ixT h16 (atI_zero _ _))) ev_c) (by decide +kernel))) (fun _ H5 e5 => ?_) fun z => nomatch z
      have ln : ((ts.map fun c => V.bl (c.at x y z)).reverse).length < 100000 := by
        rw [List.length_reverse, List.length_map]
        rw [List.length_cons, List.length_cons] at hln
        omega
      refine s_app (e5 _ _ upd_same) (ev_var rfl) (ev_andV (ev_var rfl) fun _ => ev_var rfl) ln fun H6 e6 => ?_
      refine ⟨_, _, _, _, rfl, hus, ?_, by rw [List.length_cons, List.length_cons] at hln; rw [List.length_cons]; omega, Ex.mut (((Ex.mut ((e2.trans e3).trans e4) hps).trans e5).trans e6) hps⟩
      rw [List.map_cons, List.reverse_cons]
      exact upd_same
    | or =>
      obtain ⟨a, rfl, h1⟩ := hat2
      obtain ⟨c2, c1, ts, rfl, rfl⟩ := step_or hstep
      rw [List.map_cons, List.map_cons, List.reverse_cons, List.reverse_cons] at hst
      refine s_if (b := false) (et_test (ev_is (ev_strEq (ev_op (ev_var rfl) ev_c (rv_ixT h1 (atI_zero _ _))) ev_c) (by decide +kernel))) (fun z => nomatch z) fun _ H3 e3 => ?_
      refine s_if (b := false) (et_test (ev_is (ev_strEq (ev_op (ev_var rfl) ev_c (rv_ixT (ex_t e3 h1) (atI_zero _ _))) ev_c) (by decide +kernel))) (fun z => nomatch z) fun _ H4 e4 => ?_
      have h14 := ex_t (e3.trans e4) h1
      refine q_pop (i := 2) rfl (e4 _ _ (e3 _ _ hst)) ?_
      refine q_pop (i := 2) rfl upd_same ?_
      rw [upd_upd]
      have h16 := sqT_upd (o := .lst ((ts.map fun c => V.bl (c.at x y z)).reverse)) h14 (e4 _ _ (e3 _ _ hst))
      refine s_if (b := false) (et_test (ev_is (ev_strEq (ev_op (ev_var rfl) ev_c (rv_ixT h16 (atI_zero _ _))) ev_c) (by decide +kernel))) (fun z => nomatch z) fun _ H5 e5 => ?_
      have ln : ((ts.map fun c => V.bl (c.at x y z)).reverse).length < 100000 := by
        rw [List.length_reverse, List.length_map]
        rw [List.length_cons, List.length_cons] at hln
        omega
      refine s_app (e5 _ _ upd_same) (ev_var rfl) (ev_orV (ev_var rfl) fun _ => ev_var rfl) ln fun H6 e6 => ?_
      refine ⟨_, _, _, _, rfl, hus, ?_, by rw [List.length_cons, List.length_cons] at hln; rw [List.length_cons]; omega, Ex.mut (((Ex.mut ((e2.trans e3).trans e4) hps).trans e5).trans e6) hps⟩
      rw [List.map_cons, List.reverse_cons]
      exact upd_same
  · rintro σ' H' ⟨o3, o4, o5, ts, rfl, hts, hst, hln, e2⟩
    rw [hp.1, List.take_length, hpar] at hts
    cases hts
    exact s_ret (ev_op (ev_var rfl) ev_c (rv_ixL (sq_of hst) rfl)) fun H3 e3 => q _ (e2.trans e3)
end
end Kf

set_option Elab.async false
set_option linter.all false
set_option maxRecDepth 100000
set_option maxHeartbeats 4000000
namespace Kf
open PySem L2 Evl
/-! ### the nested data that a code builds -/
def tupB (mode : Int) (k : Nat) : Bool := decide (mode = 0) || (decide (mode = 2) && decide ((k : Int) % 2 = 0))
def lstB (mode : Int) (k : Nat) : Bool := decide (mode = 1) || (decide (mode = 2) && decide ((k : Int) % 3 = 0))
def seqD (b : Bool) (ds : List Py) : Py := if b then .tup ds else .lst ds
theorem seqD_seq (b : Bool) (ds : List Py) : (seqD b ds).seq = some ds := by cases b <;> rfl
theorem seqD_dep (b : Bool) (ds : List Py) : (seqD b ds).dep = Py.deps ds + 1 := by cases b <;> rfl
def facD (b : Bool) (f g h : Int) : Py := if b then .lst [.int f, .int g, .int h] else .tup [.int f, .int g, .int h]
def stepD (mode : Int) (k : Nat) : List Py → Pt → List Py
  | s, .is f g h r m => seqD (tupB mode k) [.str "is", facD (lstB mode k) f g h, .int r, .int m] :: s
  | d :: s, .not => seqD (tupB mode k) [.str "not", d] :: s
  | d2 :: d1 :: s, .and => seqD (tupB mode k) [.str "and", d1, d2] :: s
  | d2 :: d1 :: s, .or => seqD (tupB mode k) [.str "or", d1, d2] :: s
  | _, _ => []
def runD (mode : Int) : List Pt → Nat → List Py → List Py
  | [], _, s => s
  | p :: r, k, s => runD mode r (k + 1) (stepD mode k s p)
theorem runD_snoc (mode : Int) (p : Pt) : ∀ (a : List Pt) (k : Nat) (s : List Py), runD mode (a ++ [p]) k s = stepD mode (k + a.length) (runD mode a k s) p
  | [], k, s => rfl
  | q :: a, k, s => by
    show runD mode (a ++ [p]) (k + 1) (stepD mode k s q) = _
    rw [runD_snoc mode p a (k + 1) _, List.length_cons, show k + 1 + a.length = k + (a.length + 1) by omega] <;> rfl
theorem runD_next {mode : Int} {ps : List Pt} {p : Pt} {i : Nat} (h : ps[i]? = some p) : runD mode (ps.take (i + 1)) 0 [] = stepD mode i (runD mode (ps.take i) 0 []) p := by
  have hi := (List.getElem?_eq_some_iff.mp h).1
  rw [take_one h, runD_snoc, List.length_take, Nat.min_eq_left (by omega), Nat.zero_add]
def Rel : List Cl → List Py → Prop
  | [], [] => True
  | c :: s, d :: r => (IsCl c d ∧ d.dep ≤ 2 * c.depth) ∧ Rel s r
  | _, _ => False
theorem rel_step {mode : Int} {k : Nat} : ∀ {ts us : List Cl} {ds : List Py} {p : Pt}, stepC ts p = some us → Rel ts ds → Rel us (stepD mode k ds p)
  | ts, us, ds, .is f g h r m, hs, hr => by
    cases hs
    refine ⟨⟨⟨facD (lstB mode k) f g h, seqD_seq _ _, by unfold facD; split <;> rfl⟩, ?_⟩, hr⟩
    rw [seqD_dep]
    have e : (facD (lstB mode k) f g h).dep ≤ 1 := by unfold facD; split <;> exact Nat.le_refl 1
    show max 0 (max (facD (lstB mode k) f g h).dep (max 0 (max 0 0))) + 1 ≤ 2 * 1
    omega
  | ts, us, ds, .not, hs, hr => by
    obtain ⟨c, s, rfl, rfl⟩ := step_not hs
    match ds, hr with
    | d :: r, hr =>
      refine ⟨⟨⟨d, seqD_seq _ _, hr.1.1⟩, ?_⟩, hr.2⟩
      rw [seqD_dep]
      have := hr.1.2
      show max 0 (max d.dep 0) + 1 ≤ 2 * (c.depth + 1)
      omega
  | ts, us, ds, .and, hs, hr => by
    obtain ⟨c2, c1, s, rfl, rfl⟩ := step_and hs
    match ds, hr with
    | d2 :: d1 :: r, hr =>
      refine ⟨⟨⟨d1, d2, seqD_seq _ _, hr.2.1.1, hr.1.1⟩, ?_⟩, hr.2.2⟩
      rw [seqD_dep]
      have := hr.1.2
      have := hr.2.1.2
      show max 0 (max d1.dep (max d2.dep 0)) + 1 ≤ 2 * (max c1.depth c2.depth + 1)
      omega
  | ts, us, ds, .or, hs, hr => by
    obtain ⟨c2, c1, s, rfl, rfl⟩ := step_or hs
    match ds, hr with
    | d2 :: d1 :: r, hr =>
      refine ⟨⟨⟨d1, d2, seqD_seq _ _, hr.2.1.1, hr.1.1⟩, ?_⟩, hr.2.2⟩
      rw [seqD_dep]
      have := hr.1.2
      have := hr.2.1.2
      show max 0 (max d1.dep (max d2.dep 0)) + 1 ≤ 2 * (max c1.depth c2.depth + 1)
      omega
theorem rel_run (mode : Int) : ∀ (ps : List Pt) (k : Nat) (ts us : List Cl) (ds : List Py), parse ps ts = some us → Rel ts ds → Rel us (runD mode ps k ds)
  | [], k, ts, us, ds, hp, hr => by cases hp; exact hr
  | p :: r, k, ts, us, ds, hp, hr => by
    have e : (stepC ts p).bind (parse r) = some us := hp
    cases hs : stepC ts p with
    | none => rw [hs] at e; cases e
    | some vs =>
      rw [hs] at e
      exact rel_run mode r (k + 1) vs us _ e (rel_step hs hr)
def builtD (mode : Int) (t : Cl) : Py := (runD mode t.post 0 []).headD .non
theorem built_all (mode : Int) (t : Cl) : runD mode t.post 0 [] = [builtD mode t] ∧ IsCl t (builtD mode t) ∧ (builtD mode t).dep ≤ 2 * t.depth := by
  have k := rel_run mode t.post 0 [] [t] [] (parse_post t []) trivial
  unfold builtD
  match hq : runD mode t.post 0 [], k with
  | [d], k => exact ⟨rfl, k.1.1, k.1.2⟩
/-! ### the heap but for one list -/
theorem ex_del {H : Hp} {a : Addr} : Ex (L2.del H a) H := fun b o h => by
  by_cases e : b = a
  · rw [e, del_same] at h; cases h
  · rw [del_ne e] at h; exact h
theorem ex_dels {H H' : Hp} {a : Addr} (e : Ex H H') : Ex (L2.del H a) (L2.del H' a) := fun b o h => by
  by_cases z : b = a
  · rw [z, del_same] at h; cases h
  · rw [del_ne z] at h ⊢; exact e _ _ h
theorem del_upd {H : Hp} {a : Addr} {o : HO} : L2.del (upd H a o) a = L2.del H a := by
  funext b
  by_cases z : b = a
  · rw [z, del_same, del_same]
  · rw [del_ne z, del_ne z, upd_ne z]
theorem sqT_del {K : PySem.W.Frag} {H : Hp} {a b : Addr} {xs ys : List V} (h : SqT K H b xs) (hl : H a = some (.lst ys)) : SqT K (L2.del H a) b xs := by
  rcases h with (h | ⟨u, h⟩) | h
  · exact .inl (.inl (by rw [del_ne (ne_of h hl (fun z => nomatch z))]; exact h))
  · exact .inl (.inr ⟨u, by rw [del_ne (ne_of h hl (fun z => nomatch z))]; exact h⟩)
  · exact .inr h
section
variable {K : PySem.W.Frag} {σ : L2.St} {H H' : Hp} {ta tb te : TE} {tr : TA} {D : Ends} {tz : TS}
/-- x = [w, s.pop()] -/
theorem s_lstPop {i j : Nat} {l : Addr} {xs : List V} {x w : V} (hs : σ[i]? = some (some (.ref l))) (hl : H l = some (.lst (xs ++ [x]))) (k : ∀ p, (upd H l (.lst xs)) p = none → D.nx (σ.set j (some (.ref p))) (upd (upd H l (.lst xs)) p (.lst [w, x]))) :
    tAsg (tLst (tCons (tC w) (tCons (tBM0 K "list" rPop (tVar i)) tNil))) (gName j) D σ H :=
  ⟨_, hs, Or.inl ⟨rfl, _, sq_of hl⟩, l, _, x, rfl, rfl, hl, last_snoc xs x, sz_of (by show 2 ≤ 100000; decide), fun p hp => by
    rw [List.dropLast_concat] at hp ⊢
    exact k p hp⟩
/-- x = [e, s.pop(), y] -/
theorem s_lstPop3 {i j n : Nat} {l : Addr} {xs : List V} {x y w : V} (he : Ev te σ H w) (hs : σ[i]? = some (some (.ref l))) (hn : σ[n]? = some (some y)) (hl : H l = some (.lst (xs ++ [x])))
    (k : ∀ H1 p, Ex H H1 → (upd H1 l (.lst xs)) p = none → D.nx (σ.set j (some (.ref p))) (upd (upd H1 l (.lst xs)) p (.lst [w, x, y]))) :
    tAsg (tLst (tCons te (tCons (tBM0 K "list" rPop (tVar i)) (tCons (tVar n) tNil)))) (gName j) D σ H :=
  he H (Ex.refl H) _ fun H1 e1 => ⟨_, hs, Or.inl ⟨rfl, _, sq_of (e1 _ _ hl)⟩, l, _, x, rfl, rfl, e1 _ _ hl, last_snoc xs x, _, hn, sz_of (by show 3 ≤ 100000; decide), fun p hp => by
    rw [List.dropLast_concat] at hp ⊢
    exact k H1 p e1 hp⟩
def rTupOf (K : PySem.W.Frag) : List V → Hp → VK → Prop := fun xs H Q => ∃ p ys, xs = [.ref p] ∧ ((SqL K H p ys ∧ ∀ l, H l = none → Q (.ref l) (upd H l (.tup ys))) ∨ (SqT K H p ys ∧ Q (.ref p) H))
theorem eu_tupOf {p : Addr} {xs : List V} (ha : Ev ta σ H (.ref p)) (h : SqL K H p xs) : EvU (tCB (rTupOf K) (tCons ta tNil)) σ H xs := fun H1 e Q q =>
  ha H1 e _ fun H2 e2 => ⟨p, xs, rfl, .inl ⟨ex_l (e.trans e2) h, fun l hl => q l _ (fresh_back e2 hl) (e2.trans (Ex.new hl)) upd_same⟩⟩
/-- a written leaf -/
theorem evp_leaf {tf tg th tr2 tm : TE} {f g h r m : Int} (hf : Ev tf σ H (.int f)) (hg : Ev tg σ H (.int g)) (hh : Ev th σ H (.int h)) (hr : Ev tr2 σ H (.int r)) (hm : Ev tm σ H (.int m)) :
    EvP (tTup (tCons (tC (.str "is")) (tCons (tTup (tCons tf (tCons tg (tCons th tNil)))) (tCons tr2 (tCons tm tNil))))) σ H fun v H1 => PartAt K H1 v (.is f g h r m) := by
  refine EvP.imp (evp_tupP (R := fun vs H7 => ∃ b, vs = [.str "is", .ref b, .int r, .int m] ∧ H7 b = some (.tup [.int f, .int g, .int h])) ?_ fun vs H7 hv => ?_) fun v H1 e1 hv => ?_
  · refine eap_cons (P := fun v _ => v = .str "is") (evp_ev ev_c fun _ _ => rfl) fun v H7 e7 hv => ?_
    subst hv
    refine eap_cons (P := IsU [.int f, .int g, .int h]) (evp_U (eu_tup (ea_cons (hf.mono e7) (ea_cons (hg.mono e7) (ea_cons (hh.mono e7) ea_nil))) (by show 3 ≤ 100000; decide)) fun p H8 _ h8 => ⟨p, rfl, h8⟩) fun v H8 e8 hv => ?_
    obtain ⟨b, rfl, hb⟩ := hv
    exact fun H9 e9 Q' q' => (hr.mono (e7.trans e8)) H9 e9 _ fun H10 e10 => (hm.mono (e7.trans e8)) H10 (e9.trans e10) _ fun H11 e11 => q' _ H11 (e10.trans e11) ⟨b, rfl, ((e9.trans e10).trans e11) _ _ hb⟩
  · obtain ⟨b, rfl, _⟩ := hv
    show 4 ≤ 100000
    decide
  · obtain ⟨p, vs, H0, rfl, hp, e0, b, rfl, hb⟩ := hv
    exact ⟨p, b, rfl, st_of hp, st_of (e0 _ _ hb)⟩
end
def spBuilt (K : PySem.W.Frag) : Sp := fun vs H Q _ => ∃ (pc : Addr) (mode : Int) (t : Cl), vs = [.ref pc, .int mode] ∧ CodeAt K H pc t.post ∧ t.depth ≤ 12 ∧ ∀ v H', Ex H H' → Rp K H' v (builtD mode t) → Q v H'
def spBeyond (K : PySem.W.Frag) : Sp := fun vs H Q _ => ∃ (pc : Addr) (c : Int) (t : Cl), vs = [.ref pc, .int c] ∧ CodeAt K H pc t.post ∧ t.Ok ∧ t.depth ≤ 8 ∧ ∀ u : Cl, u.Ok → u.depth ≤ t.depth + 2 → ∀ v H', Ex H H' → IsCode K u.post v H' → Q v H'
def spSays : Sp := fun vs H Q _ => ∃ b : Bool, vs = [.bl b, .bl b] ∧ RetV (.bl true) H Q
section
variable {P : Program} {w : World} {K : PySem.W.Frag} {mg : Str → Option Value} {base : Heap} {H : Hp}
theorem sv_lcm {pc : Addr} {ps : List Pt} (h : CodeAt K H pc ps) (hp : ∀ p ∈ ps, PtOk p) : SpV (spLcm K) [.ref pc] H (.int (lcmP ps : Nat)) := fun H1 e Q q E => ⟨pc, ps, rfl, h.mo e, hp, q⟩
theorem sv_true {pc pr : Addr} {t : Cl} {x y z : Int} (h : CodeAt K H pc t.post) (ok : t.Ok) (hd : t.depth ≤ 12) (hr : Sq K H pr [.int x, .int y, .int z]) : SpV (spTrue K) [.ref pc, .ref pr] H (.bl (t.at x y z)) := fun H1 e Q q E => ⟨pc, pr, t, x, y, z, rfl, h.mo e, ok, hd, hr.ex e, q⟩
theorem sv_built {pc : Addr} {mode : Int} {t : Cl} (h : CodeAt K H pc t.post) (hd : t.depth ≤ 12) : SpP (spBuilt K) [.ref pc, .int mode] H fun v H1 => Rp K H1 v (builtD mode t) := fun H1 e Q q E => ⟨pc, mode, t, rfl, h.mo e, hd, fun v H2 e2 h2 => q v H2 e2 h2⟩
theorem sv_says {b : Bool} : SpV spSays [.bl b, .bl b] H (.bl true) := fun H1 e Q q E => ⟨b, rfl, q⟩
abbrev sLawBuilt : Stmt := top 38
theorem scLawBuilt : FnScope ["code", "mode", "stack", "k", "part", "factors", "made", "two"] ["code", "mode"] (defScope sLawBuilt) := ⟨rfl, rfl, rfl, by decide +kernel, rfl, by decide +kernel, by decide +kernel⟩
theorem df_built (B : Bi mg) (S : At K mg "_law_built" sLawBuilt ["code", "mode"]) : Df P w K mg base CX0 "_law_built" 1 ["code", "mode"] (spBuilt K) := by
  obtain ⟨f, fd, F, m, b⟩ := S
  refine ⟨f, fd, m, F.kp, b, F.ok scLawBuilt (fun vs H Q E h => ?_) (fun cdv A outer s H vs Q E hr h => ?_)⟩
  · obtain ⟨pc, mode, t, rfl, _⟩ := h
    rfl
  obtain ⟨pc, mode, t, rfl, ⟨vs, hv, hp⟩, td, q⟩ := h
  refine ⟨_, (pss_cons (ps_set (i := 2) scLawBuilt.nd rfl (Or.inl rfl) (pe_lst pa_nil))
  (pss_cons (ps_for PassesOwn.never rfl (pi_range1 rfl B.range (pa_cons (pe_callB call_len_seq rfl B.len PySem.boot_len (pa_cons (pv 0) pa_nil)) pa_nil)) (pg_name (i := 3) scLawBuilt.nd rfl (Or.inl rfl)) (pss_cons (ps_set (i := 4) scLawBuilt.nd rfl (Or.inl rfl) (pe_ix ix_list (pv 0) (pv 3) (fun _ _ => rfl)))
  (pss_cut (ps_if (pt_cmpR op_eq (pe_ix ix_tup (pv 4) pe_int (fun _ _ => rfl)) pe_str (nomark _)) (pss_cons (ps_set (i := 5) scLawBuilt.nd rfl (Or.inl rfl) (pe_ix ix_tup (pv 4) pe_int (fun _ _ => rfl)))
  (pss_cut (ps_if (PW.pt (pw_or (pt_cmpR op_eq (pv 1) pe_int (nomark _)) (pw_or1 (PW.pt (pw_and (pt_cmpR op_eq (pv 1) pe_int (nomark _)) (pw_and1 (pt_cmpR op_eq (pe_op op_mod (pe_callTy call_int1 rfl B.int PyProof.Rows.boot_int (pa_cons (pv 3) pa_nil)) pe_int) pe_int (nomark _)))))))) (pss_one (ps_set (i := 5) scLawBuilt.nd rfl (Or.inl rfl) (pe_callTy call_list_of rfl B.list PyProof.Rows.boot_list (pa_cons (pe_ix ix_tup (pv 4) pe_int (fun _ _ => rfl)) pa_nil)))) pss_nil)
  (pss_one (ps_set (i := 6) scLawBuilt.nd rfl (Or.inl rfl) (pe_lst (pa_cons pe_str (pa_cons (pv 5) (pa_cons (pe_ix ix_tup (pv 4) pe_int (fun _ _ => rfl)) (pa_cons (pe_ix ix_tup (pv 4) pe_int (fun _ _ => rfl)) pa_nil))))))))) (pss_one (ps_if (pt_cmpR op_eq (pe_ix ix_tup (pv 4) pe_int (fun _ _ => rfl)) pe_str (nomark _)) (pss_one (ps_set (i := 6) scLawBuilt.nd rfl (Or.inl rfl) (pe_lst (pa_cons pe_str (pa_cons (pe_bm0 PySem.F.plainAttrs_list PySem.F.slot_list_pop PySem.F.type_list_pop mt_pop (pv 2)) pa_nil))))) (pss_cons (ps_set (i := 7) scLawBuilt.nd rfl (Or.inl rfl) (pe_bm0 PySem.F.plainAttrs_list PySem.F.slot_list_pop PySem.F.type_list_pop mt_pop (pv 2)))
  (pss_one (ps_set (i := 6) scLawBuilt.nd rfl (Or.inl rfl) (pe_lst (pa_cons (pe_ix ix_tup (pv 4) pe_int (fun _ _ => rfl)) (pa_cons (pe_bm0 PySem.F.plainAttrs_list PySem.F.slot_list_pop PySem.F.type_list_pop mt_pop (pv 2)) (pa_cons (pv 7) pa_nil))))))))))
  (pss_cut (ps_if (PW.pt (pw_or (pt_cmpR op_eq (pv 1) pe_int (nomark _)) (pw_or1 (PW.pt (pw_and (pt_cmpR op_eq (pv 1) pe_int (nomark _)) (pw_and1 (pt_cmpR op_eq (pe_op op_mod (pe_callTy call_int1 rfl B.int PyProof.Rows.boot_int (pa_cons (pv 3) pa_nil)) pe_int) pe_int (nomark _)))))))) (pss_one (ps_set (i := 6) scLawBuilt.nd rfl (Or.inl rfl) (pe_callTy call_tuple_of rfl B.tuple PyProof.Rows.boot_tuple (pa_cons (pv 6) pa_nil)))) pss_nil)
  (pss_one (ps_expr (pe_bm PySem.F.plainAttrs_list PySem.F.slot_list_append PySem.F.type_list_append mt_append (pv 2) (pa_cons (pv 6) pa_nil))))))))
  (pss_one (ps_ret (pe_ix ix_list (pv 2) pe_int (fun _ _ => rfl)))))), ?_⟩
  have hpar := parse_post t []
  have plen := Cl.post_small td
  refine q_asgL (el_lst ea_nil (Nat.zero_le _)) fun ps H1 hps e1 hs1 => ?_
  refine q_forR1 (n := ((vs.length : Nat) : Int)) (ea_cons (ev_lenQ (ev_var rfl) (.inl (sq_of (e1 _ _ hv)))) ea_nil) (by rw [hp.1]; omega)
    (fun i σ' H' => ∃ (o3 o4 o5 o6 o7 : Option V) (ts : List Cl) (ws : List V), σ' = [some (.ref pc), some (.int mode), some (.ref ps), o3, o4, o5, o6, o7] ∧ parse (t.post.take i) [] = some ts ∧ Rel ts (runD mode (t.post.take i) 0 []) ∧ H' ps = some (.lst ws.reverse) ∧ RpAll K (L2.del H' ps) ws (runD mode (t.post.take i) 0 []) ∧ ws.length ≤ i ∧ Ex H H')
    (fun H2 e2 => ⟨none, none, none, none, none, [], [], rfl, by rw [List.take_zero] <;> rfl, by rw [List.take_zero]; trivial, e2 _ _ hs1, by rw [List.take_zero]; exact .nil, Nat.le_refl 0, e1.trans e2⟩) ?_ ?_
  · rintro i σ' H' hi ⟨o3, o4, o5, o6, o7, ts, ws, rfl, hts, hrel, hst, hall, hln, e2⟩
    have hil : i < t.post.length := by rw [← hp.1]; omega
    have hvi : vs[i]? = some vs[i] := List.getElem?_eq_getElem (by rw [hp.1]; exact hil)
    obtain ⟨p, hpi, hat⟩ := hp.2 i _ hvi
    obtain ⟨us, hstep, hus⟩ := parse_next hpar hpi hts
    have hrel' := rel_step (mode := mode) (k := i) hstep hrel
    have hrn := runD_next (mode := mode) hpi
    generalize hds : runD mode (t.post.take i) 0 [] = ds at hrel hall hrel' hrn
    have hps_ne : ∀ {b : Addr} {H2 : Hp} {o : HO}, H2 ps = some o → H2 b = none → b ≠ ps := fun h1 h2 => Ne.symm (ne_of_none h1 h2)
    refine q_asg (ev_op (ev_var rfl) (ev_var rfl) (rv_ixL (sq_of (e2 _ _ hv)) (atI_nat hvi))) fun H3 e3 => ?_
    have hat3 := (hat.mo e2).mo e3
    have hst3 := e3 _ _ hst
    have hall3 := hall.mo (ex_dels (a := ps) e3)
    refine q_cut (M := fun σ' H4 => ∃ (pm : Addr) (items ds2 : List Py) (xs ws2 : List V) (o5 o7 : Option V), σ' = [some (.ref pc), some (.int mode), some (.ref ps), some (.int (i : Int)), some vs[i], o5, some (.ref pm), o7] ∧ stepD mode i ds p = seqD (tupB mode i) items :: ds2 ∧
      H4 pm = some (.lst xs) ∧ pm ≠ ps ∧ RpAll K (L2.del H4 ps) xs items ∧ xs.length ≤ 4 ∧ H4 ps = some (.lst ws2.reverse) ∧ RpAll K (L2.del H4 ps) ws2 ds2 ∧ ws2.length ≤ i ∧ Ex H H4) ?_ ?_
    · obtain ⟨a, r, ea, hh⟩ := hat3.head
      rw [ea]
      cases p with
      | is f g h r0 m0 =>
        obtain ⟨a', b', ea', h1, h2⟩ := hat3
        have eaa : a = a' := by rw [ea] at ea'; exact V.ref.inj ea'
        subst eaa
        refine s_if (b := true) (et_test (ev_is (ev_strEq (ev_op (ev_var rfl) ev_c (rv_ixT h1 (atI_zero _ _))) ev_c) (by rw [decide_eq_true rfl]))) (fun _ H4 e4 => ?_) fun z => nomatch z
        have h14 := ex_t e4 h1
        refine q_asg (ev_op (ev_var rfl) ev_c (rv_ixT h14 rfl)) fun H5 e5 => ?_
        have h15 := ex_t e5 h14
        have hst5 := e5 _ _ (e4 _ _ hst3)
        refine q_cut (M := fun σ' H6 => ∃ pf, σ' = [some (.ref pc), some (.int mode), some (.ref ps), some (.int (i : Int)), some (.ref a), some (.ref pf), o6, o7] ∧ Rp K (L2.del H6 ps) (.ref pf) (facD (lstB mode i) f g h) ∧ Ex H5 H6) ?_ ?_
        · refine s_when (b := lstB mode i) (et_or (et_test (ev_intEq (ev_var rfl) ev_c)) fun _ => et_and (et_test (ev_intEq (ev_var rfl) ev_c)) fun _ => et_test (ev_intEq (ev_mod (ev_int (ev_var rfl)) ev_c (by decide)) ev_c)) (fun hb H6 e6 => ?_) fun hb H6 e6 => ?_
          · have h26 := ex_t (((e4.trans e5).trans e6)) h2
            have hst6 := e6 _ _ hst5
            have src : Ev (tOp (rIxT K) (tVar 4) (tC (.int 1))) [some (.ref pc), some (.int mode), some (.ref ps), some (.int (i : Int)), some (.ref a), some (.ref b'), o6, o7] H6 (.ref b') := ev_op (ev_var rfl) ev_c (rv_ixT (ex_t e6 h15) rfl)
            refine s_asgL (el_listQ src (.inr h26)) fun pf H7 hpf e7 h7 => ?_
            refine ⟨pf, rfl, ?_, e6.trans e7⟩
            rw [hb]
            refine Rp.of_list (xs := [.int f, .int g, .int h]) ?_ (RpAll.ints [f, g, h])
            rw [del_ne (Ne.symm (ne_of_none hst6 hpf))]
            exact h7
          · refine ⟨b', rfl, ?_, e6⟩
            rw [hb]
            exact Rp.tup (sqT_del (ex_t (((e4.trans e5).trans e6)) h2) (e6 _ _ hst5)) (RpAll.ints [f, g, h])
        · rintro σ6 H6 ⟨pf, rfl, hpf, e6⟩
          have h16 := ex_t e6 h15
          have hst6 := e6 _ _ hst5
          refine s_asgL (el_lst (ea_cons ev_c (ea_cons (ev_var rfl) (ea_cons (ev_op (ev_var rfl) ev_c (rv_ixT h16 rfl)) (ea_cons (ev_op (ev_var rfl) ev_c (rv_ixT h16 rfl)) ea_nil)))) (by show 4 ≤ 100000; decide)) fun pm H7 hpm e7 h7 => ?_
          have nm := Ne.symm (ne_of_none hst6 hpm)
          exact ⟨pm, _, ds, _, ws, _, _, rfl, rfl, h7, nm, .cons (.str _) (.cons (hpf.mo (ex_dels e7)) (.cons (.int _) (.cons (.int _) .nil))), Nat.le_refl 4, e7 _ _ hst6, hall3.mo (ex_dels (((e4.trans e5).trans e6).trans e7)), hln, ((((e2.trans e3).trans e4).trans e5).trans e6).trans e7⟩
      | not =>
        obtain ⟨c, ts', rfl, rfl⟩ := step_not hstep
        match ds, hrel, hall3 with
        | d :: ds', hrel, hall3 =>
        cases hall3 with
        | @cons x ws' _ _ hx hws =>
        rw [List.reverse_cons] at hst3
        refine s_if (b := false) (et_test (ev_is (ev_strEq (ev_op (ev_var rfl) ev_c (rv_ixT hh (atI_zero _ _))) ev_c) (by decide +kernel))) (fun z => nomatch z) fun _ H4 e4 => ?_
        refine s_if (b := true) (et_test (ev_is (ev_strEq (ev_op (ev_var rfl) ev_c (rv_ixT (ex_t e4 hh) (atI_zero _ _))) ev_c) (by decide +kernel))) (fun _ H5 e5 => ?_) fun z => nomatch z
        have hst5 := e5 _ _ (e4 _ _ hst3)
        refine s_lstPop (i := 2) rfl hst5 fun pm hpm => ?_
        have nm : pm ≠ ps := fun z => by rw [z, upd_same] at hpm; cases hpm
        have ee : Ex (L2.del H3 ps) (L2.del (upd (upd H5 ps (.lst ws'.reverse)) pm (.lst [V.str "not", x])) ps) := by
          refine (ex_dels (e4.trans e5)).trans ?_
          have k := ex_dels (a := ps) (Ex.new (o := .lst [V.str "not", x]) hpm)
          rw [del_upd] at k
          exact k
        exact ⟨pm, _, ds', _, ws', _, _, rfl, rfl, upd_same, nm, .cons (.str _) (.cons (hx.mo ee) .nil), by show 2 ≤ 4; decide, by rw [upd_ne (Ne.symm nm)]; exact upd_same, hws.mo ee, by rw [List.length_cons] at hln; omega, (Ex.mut (((e2.trans e3).trans e4).trans e5) hps).trans (Ex.new hpm)⟩
      | and =>
        obtain ⟨c2, c1, ts', rfl, rfl⟩ := step_and hstep
        match ds, hrel, hall3 with
        | d2 :: d1 :: ds', hrel, hall3 =>
        cases hall3 with
        | @cons x2 ws1 _ _ hx2 hws1 =>
        cases hws1 with
        | @cons x1 ws' _ _ hx1 hws =>
        rw [List.reverse_cons, List.reverse_cons] at hst3
        refine s_if (b := false) (et_test (ev_is (ev_strEq (ev_op (ev_var rfl) ev_c (rv_ixT hh (atI_zero _ _))) ev_c) (by decide +kernel))) (fun z => nomatch z) fun _ H4 e4 => ?_
        refine s_if (b := false) (et_test (ev_is (ev_strEq (ev_op (ev_var rfl) ev_c (rv_ixT (ex_t e4 hh) (atI_zero _ _))) ev_c) (by decide +kernel))) (fun z => nomatch z) fun _ H5 e5 => ?_
        have hst5 := e5 _ _ (e4 _ _ hst3)
        refine q_pop (i := 2) rfl hst5 ?_
        have hh5 := sqT_upd (o := .lst (ws'.reverse ++ [x1])) (ex_t (e4.trans e5) hh) hst5
        refine s_lstPop3 (i := 2) (n := 7) (xs := ws'.reverse) (ev_op (ev_var rfl) ev_c (rv_ixT hh5 (atI_zero _ _))) rfl rfl upd_same fun H6 pm e6 hpm => ?_
        have nm : pm ≠ ps := fun z => by rw [z, upd_same] at hpm; cases hpm
        have ee : Ex (L2.del H3 ps) (L2.del (upd (upd H6 ps (.lst ws'.reverse)) pm (.lst [V.str "and", x1, x2])) ps) := by
          refine (ex_dels (e4.trans e5)).trans ?_
          have k0 := ex_dels (a := ps) e6
          rw [del_upd] at k0
          have k := ex_dels (a := ps) (Ex.new (o := .lst [V.str "and", x1, x2]) hpm)
          rw [del_upd] at k
          exact k0.trans k
        exact ⟨pm, _, ds', _, ws', _, _, rfl, rfl, upd_same, nm, .cons (.str _) (.cons (hx1.mo ee) (.cons (hx2.mo ee) .nil)), by show 3 ≤ 4; decide, by rw [upd_ne (Ne.symm nm)]; exact upd_same, hws.mo ee, by rw [List.length_cons, List.length_cons] at hln; omega,
          (Ex.mut ((Ex.mut (((e2.trans e3).trans e4).trans e5) hps).trans e6) hps).trans (Ex.new hpm)⟩
      | or =>
        obtain ⟨c2, c1, ts', rfl, rfl⟩ := step_or hstep
        match ds, hrel, hall3 with
        | d2 :: d1 :: ds', hrel, hall3 =>
        cases hall3 with
        | @cons x2 ws1 _ _ hx2 hws1 =>
        cases hws1 with
        | @cons x1 ws' _ _ hx1 hws =>
        rw [List.reverse_cons, List.reverse_cons] at hst3
        refine s_if (b := false) (et_test (ev_is (ev_strEq (ev_op (ev_var rfl) ev_c (rv_ixT hh (atI_zero _ _))) ev_c) (by decide +kernel))) (fun z => nomatch z) fun _ H4 e4 => ?_
        refine s_if (b := false) (et_test (ev_is (ev_strEq (ev_op (ev_var rfl) ev_c (rv_ixT (ex_t e4 hh) (atI_zero _ _))) ev_c) (by decide +kernel))) (fun z => nomatch z) fun _ H5 e5 => ?_
        have hst5 := e5 _ _ (e4 _ _ hst3)
        refine q_pop (i := 2) rfl hst5 ?_
        have hh5 := sqT_upd (o := .lst (ws'.reverse ++ [x1])) (ex_t (e4.trans e5) hh) hst5
        refine s_lstPop3 (i := 2) (n := 7) (xs := ws'.reverse) (ev_op (ev_var rfl) ev_c (rv_ixT hh5 (atI_zero _ _))) rfl rfl upd_same fun H6 pm e6 hpm => ?_
        have nm : pm ≠ ps := fun z => by rw [z, upd_same] at hpm; cases hpm
        have ee : Ex (L2.del H3 ps) (L2.del (upd (upd H6 ps (.lst ws'.reverse)) pm (.lst [V.str "or", x1, x2])) ps) := by
          refine (ex_dels (e4.trans e5)).trans ?_
          have k0 := ex_dels (a := ps) e6
          rw [del_upd] at k0
          have k := ex_dels (a := ps) (Ex.new (o := .lst [V.str "or", x1, x2]) hpm)
          rw [del_upd] at k
          exact k0.trans k
        exact ⟨pm, _, ds', _, ws', _, _, rfl, rfl, upd_same, nm, .cons (.str _) (.cons (hx1.mo ee) (.cons (hx2.mo ee) .nil)), by show 3 ≤ 4; decide, by rw [upd_ne (Ne.symm nm)]; exact upd_same, hws.mo ee, by rw [List.length_cons, List.length_cons] at hln; omega,
          (Ex.mut ((Ex.mut (((e2.trans e3).trans e4).trans e5) hps).trans e6) hps).trans (Ex.new hpm)⟩
    · rintro σ4 H4 ⟨pm, items, ds2, xs, ws2, o5, o7, rfl, hsd, hpm, nm, hxs, hx4, hst4, hws, hln2, e4⟩
      refine q_cut (M := fun σ' H5 => ∃ (pm2 : Addr) (o5 o7 : Option V), σ' = [some (.ref pc), some (.int mode), some (.ref ps), some (.int (i : Int)), some vs[i], o5, some (.ref pm2), o7] ∧ Rp K (L2.del H5 ps) (.ref pm2) (seqD (tupB mode i) items) ∧ Ex H4 H5) ?_ ?_
      · refine s_when (b := tupB mode i) (et_or (et_test (ev_intEq (ev_var rfl) ev_c)) fun _ => et_and (et_test (ev_intEq (ev_var rfl) ev_c)) fun _ => et_test (ev_intEq (ev_mod (ev_int (ev_var rfl)) ev_c (by decide)) ev_c)) (fun hb H5 e5 => ?_) fun hb H5 e5 => ?_
        · have hst5 := e5 _ _ hst4
          refine s_asgU (eu_tupOf (ev_var rfl) (sq_of (e5 _ _ hpm))) fun p2 H6 hp2 e6 h6 => ?_
          refine ⟨p2, _, _, rfl, ?_, e5.trans e6⟩
          rw [hb]
          refine Rp.of_tup (xs := xs) ?_ (hxs.mo (ex_dels (e5.trans e6)))
          rw [del_ne (Ne.symm (ne_of_none hst5 hp2))]
          exact h6
        · refine ⟨pm, _, _, rfl, ?_, e5⟩
          rw [hb]
          refine Rp.of_list (xs := xs) ?_ (hxs.mo (ex_dels e5))
          rw [del_ne nm]
          exact e5 _ _ hpm
      · rintro σ5 H5 ⟨pm2, p5, p7, rfl, hr2, e5⟩
        refine s_app (e5 _ _ hst4) (ev_var rfl) (ev_var rfl) (by rw [List.length_reverse]; omega) fun H6 e6 => ?_
        refine ⟨_, _, _, _, _, us, V.ref pm2 :: ws2, rfl, hus, by rw [hrn]; exact hrel', ?_, ?_, by rw [List.length_cons]; omega, Ex.mut ((e4.trans e5).trans e6) hps⟩
        · rw [List.reverse_cons]
          exact upd_same
        · rw [hrn, hsd, del_upd]
          exact .cons (hr2.mo (ex_dels e6)) (hws.mo (ex_dels (e5.trans e6)))
  · rintro σ' H' ⟨o3, o4, o5, o6, o7, ts, ws, rfl, hts, hrel, hst, hall, hln, e2⟩
    rw [Int.toNat_natCast, hp.1, List.take_length, (built_all mode t).1] at hall
    match ws, hall with
    | [v], .cons hv1 .nil =>
      exact s_ret (ev_op (ev_var rfl) ev_c (rv_ixL (sq_of hst) rfl)) fun H3 e3 => q v _ (e2.trans e3) ((hv1.mo ex_del).mo e3)
end
end Kf

set_option Elab.async false
set_option linter.all false
set_option maxRecDepth 100000
set_option maxHeartbeats 4000000
namespace Kf
open PySem L2 Evl
section
variable {K : PySem.W.Frag} {σ : L2.St} {H H' : Hp} {ta tb te : TE} {tr : TA}
theorem rv_isB {a b : Bool} : RV rIsB (.bl a) (.bl b) H (.bl (decide (a = b))) := fun H1 _ _ q => ⟨a, b, rfl, rfl, q H1 (Ex.refl H1)⟩
theorem rv_notN {x : V} : RV (fun x y H Q => y = .non ∧ Q (.bl (!decide (x = .non))) H) x .non H (.bl (!decide (x = .non))) := fun H1 _ _ q => ⟨rfl, q H1 (Ex.refl H1)⟩
theorem SpV.p {sp : Sp} {vs : List V} {z : V} (h : SpV sp vs H z) : SpP sp vs H fun v _ => v = z := fun H1 e Q q E => h H1 e Q (fun H2 e2 => q z H2 e2 rfl) E
theorem sv_modTold {x : V} {d : Py} {c : Cl} (h : Rp K H x d) (hc : IsCl c d) (ok : c.Ok) (hn : c.depth ≤ 8) : SpV (spModTold K) [x, .int (c.many : Nat)] H (.bl true) := fun H1 e Q q E => ⟨x, d, c, rfl, h.mo e, hc, ok, hn, q⟩
theorem isCl_seq {c : Cl} {d : Py} (h : IsCl c d) : ∃ ds, d.seq = some ds := by
  cases c with
  | is => obtain ⟨_, h, _⟩ := h; exact ⟨_, h⟩
  | not => obtain ⟨_, h, _⟩ := h; exact ⟨_, h⟩
  | and => obtain ⟨_, _, h, _⟩ := h; exact ⟨_, h⟩
  | or => obtain ⟨_, _, h, _⟩ := h; exact ⟨_, h⟩
end
section
variable {P : Program} {w : World} {K : PySem.W.Frag} {mg : Str → Option Value} {base : Heap} {H : Hp}
abbrev sLawBeyond : Stmt := top 39
theorem scLawBeyond : FnScope ["code", "cell", "digits", "first", "leaf", "many", "k", "by"] ["code", "cell"] (defScope sLawBeyond) := ⟨rfl, rfl, rfl, by decide +kernel, rfl, by decide +kernel, by decide +kernel⟩
abbrev sLawSays : Stmt := top 40
theorem scLawSays : FnScope ["told", "due"] ["told", "due"] (defScope sLawSays) := ⟨rfl, rfl, rfl, by decide +kernel, rfl, by decide +kernel, by decide +kernel⟩
theorem df_beyond (DLawDigits : Df P w K mg base CX0 "_law_digits" 1 ["cell", "sizes"] (spDigits K)) (DLawLcm : Df P w K mg base CX0 "_law_lcm" 2 ["code"] (spLcm K)) (DLawGcd : Df P w K mg base CX0 "_law_gcd" 1 ["one", "two"] spGcd) (B : Bi mg) (S : At K mg "_law_beyond" sLawBeyond ["code", "cell"]) :
    Df P w K mg base CX0 "_law_beyond" 3 ["code", "cell"] (spBeyond K) := by
  obtain ⟨f, fd, F, m, b⟩ := S
  refine ⟨f, fd, m, F.kp, b, F.ok scLawBeyond (fun vs H Q E h => ?_) (fun cdv A outer s H vs Q E hr h => ?_)⟩
  · obtain ⟨pc, c, t, rfl, _⟩ := h
    rfl
  obtain ⟨pc, c, t, rfl, hc, tok, td, q⟩ := h
  refine ⟨_, (pss_cons (ps_set (i := 2) scLawBeyond.nd rfl (Or.inl rfl) (pe_df DLawDigits hr pass0 (pa_cons (pv 1) (pa_cons (pe_lst (pa_cons pe_int (pa_cons pe_int (pa_cons pe_int (pa_cons pe_int (pa_cons pe_int (pa_cons pe_int (pa_cons pe_int (pa_cons pe_int pa_nil))))))))) pa_nil))))
  (pss_cons (ps_set (i := 3) scLawBeyond.nd rfl (Or.inl rfl) (pe_op op_add pe_int (pe_ix ix_list (pv 2) pe_int (fun _ _ => rfl))))
  (pss_cons (ps_set (i := 4) scLawBeyond.nd rfl (Or.inl rfl) (pe_tup (pa_cons pe_str (pa_cons (pe_tup (pa_cons (pe_op op_sub (pe_ix ix_list (pv 2) pe_int (fun _ _ => rfl)) pe_int) (pa_cons pe_int (pa_cons (pe_op op_sub (pe_ix ix_list (pv 2) pe_int (fun _ _ => rfl)) pe_int) pa_nil)))) (pa_cons (pe_op op_mod (pe_callTy call_int1 rfl B.int PyProof.Rows.boot_int (pa_cons (pe_ix ix_list (pv 2) pe_int (fun _ _ => rfl)) pa_nil)) (pv 3)) (pa_cons (pv 3) pa_nil))))))
  (pss_cons (ps_set (i := 0) scLawBeyond.nd rfl (Or.inl rfl) (pe_op op_cat (pv 0) (pe_lst (pa_cons (pv 4) (pa_cons (pe_tup (pa_cons (pe_ix ix_list (pe_lst (pa_cons pe_str (pa_cons pe_str pa_nil))) (pe_ix ix_list (pv 2) pe_int (fun _ _ => rfl)) (fun _ _ => rfl)) pa_nil)) pa_nil)))))
  (pss_cons (ps_set (i := 5) scLawBeyond.nd rfl (Or.inl rfl) (pe_df DLawLcm hr pass0 (pa_cons (pv 0) pa_nil)))
  (pss_cons (ps_for PassesOwn.never rfl (pi_range1 rfl B.range (pa_cons pe_int pa_nil)) (pg_name (i := 6) scLawBeyond.nd rfl (Or.inl rfl)) (pss_cons (ps_set (i := 7) scLawBeyond.nd rfl (Or.inl rfl) (pe_op op_add pe_int (pe_op op_mod (pe_callTy call_int1 rfl B.int PyProof.Rows.boot_int (pa_cons (pe_op op_add (pe_ix ix_list (pv 2) pe_int (fun _ _ => rfl)) (pv 6)) pa_nil)) pe_int)))
  (pss_one (ps_if (pt_cmpR op_gt (pe_op op_fdiv (pe_op op_mul (pv 5) (pv 7)) (pe_df DLawGcd hr pass0 (pa_cons (pv 5) (pa_cons (pv 7) pa_nil)))) pe_int (nomark _)) (pss_cons (ps_set (i := 4) scLawBeyond.nd rfl (Or.inl rfl) (pe_tup (pa_cons pe_str (pa_cons (pe_tup (pa_cons pe_int (pa_cons (pe_op op_sub (pe_ix ix_list (pv 2) pe_int (fun _ _ => rfl)) pe_int) (pa_cons (pe_op op_sub (pe_ix ix_list (pv 2) pe_int (fun _ _ => rfl)) pe_int) pa_nil)))) (pa_cons (pe_op op_mod (pe_callTy call_int1 rfl B.int PyProof.Rows.boot_int (pa_cons (pe_ix ix_list (pv 2) pe_int (fun _ _ => rfl)) pa_nil)) (pv 7)) (pa_cons (pv 7) pa_nil))))))
  (pss_one (ps_ret (pe_op op_cat (pe_op op_cat (pe_lst (pa_cons (pv 4) pa_nil)) (pv 0)) (pe_lst (pa_cons (pe_tup (pa_cons (pe_ix ix_list (pe_lst (pa_cons pe_str (pa_cons pe_str pa_nil))) (pe_ix ix_list (pv 2) pe_int (fun _ _ => rfl)) (fun _ _ => rfl)) pa_nil)) pa_nil)))))) pss_nil))))
  (pss_one (ps_ret (pv 0))))))))), ?_⟩
  refine q_asgP (evp_digits [11, 12, 199, 199, 12, 12, 2, 2] (ev_var rfl) (el_lst (ea_cons ev_c (ea_cons ev_c (ea_cons ev_c (ea_cons ev_c (ea_cons ev_c (ea_cons ev_c (ea_cons ev_c (ea_cons ev_c ea_nil)))))))) (by show 8 ≤ 100000; decide)) rfl (by decide) (by decide)) fun v H1 e1 hv => ?_
  obtain ⟨pd, ds, rfl, ok, hd⟩ := hv
  have dl : ds.length = 8 := ok.1
  match ds, dl with
  | [d0, d1, d2, d3, d4, d5, d6, d7], _ =>
  have b0 := ok.2 0 11 d0 rfl rfl
  have b1 := ok.2 1 12 d1 rfl rfl
  have b2 := ok.2 2 199 d2 rfl rfl
  have b3 := ok.2 3 199 d3 rfl rfl
  have b6 := ok.2 6 2 d6 rfl rfl
  have b7 := ok.2 7 2 d7 rfl rfl
  have hdq : SqL K H1 pd [.int d0, .int d1, .int d2, .int d3, .int d4, .int d5, .int d6, .int d7] := sq_of hd
  have ix : ∀ {H' : Hp} {j : Int} {v : V} {σ : L2.St}, Ex H1 H' → σ[2]? = some (some (.ref pd)) → atI [V.int d0, .int d1, .int d2, .int d3, .int d4, .int d5, .int d6, .int d7] j = some v → Ev (tOp (rIxL K) (tVar 2) (tC (.int j))) σ H' v := fun e hs h => ev_op (ev_var hs) ev_c (rv_ixL (ex_l e hdq) h)
  refine q_asg (ev_op ev_c (ix (Ex.refl _) rfl rfl) rv_I0) fun H2 e2 => ?_
  have l1 : LeafOk (d2 - 99) 1 (d3 - 99) (d4 % (2 + d0)) (2 + d0) := ⟨by omega, by omega, by omega, by omega, Int.emod_nonneg _ (by omega), by have := Int.emod_lt_of_pos d4 (show 0 < 2 + d0 by omega); omega⟩
  refine q_asgP (evp_leaf (K := K) (ev_op (ix e2 rfl rfl) ev_c rv_I0) ev_c (ev_op (ix e2 rfl rfl) ev_c rv_I0) (ev_mod (ev_int (ix e2 rfl rfl)) (ev_var rfl) (by omega)) (ev_var rfl)) fun v3 H3 e3 hl => ?_
  have tl := Cl.post_small (c := t) (by omega)
  have hc3 := ((hc.mo e1).mo e2).mo e3
  refine q_asgP (evp_catC (K := K) (evp_var rfl fun H4 e4 => ⟨pc, rfl, hc3.mo e4⟩) (fun H4 e4 => evp_lstC (eapt_cons (evp_var rfl fun H5 e5 => hl.mo (e4.trans e5)) fun H5 e5 => eapt_cons (evp_word (K := K) (ev_andOr (ix (((e2.trans e3).trans e4).trans e5) rfl rfl) b6.1 b6.2) fun a H h => partAt_bin (K := K) _ h) fun _ _ => eapt_nil) (by show 2 ≤ 100000; decide)) (by show _ + 2 ≤ _; omega)) fun v4 H4 e4 hv => ?_
  obtain ⟨pc2, rfl, hc4⟩ := hv
  generalize (!decide (d6 = 0)) = sb at hc4
  have ep : (Cl.bin sb t (.is (d2 - 99) 1 (d3 - 99) (d4 % (2 + d0)) (2 + d0))).post = t.post ++ [Pt.is (d2 - 99) 1 (d3 - 99) (d4 % (2 + d0)) (2 + d0), Pt.bin sb] := by rw [Cl.post_bin, List.append_assoc] <;> rfl
  rw [← ep] at hc4
  have uok : (Cl.bin sb t (.is (d2 - 99) 1 (d3 - 99) (d4 % (2 + d0)) (2 + d0))).Ok := Cl.ok_bin sb tok l1
  have ud : (Cl.bin sb t (.is (d2 - 99) 1 (d3 - 99) (d4 % (2 + d0)) (2 + d0))).depth = t.depth + 1 := by rw [Cl.depth_bin]; show max t.depth 1 + 1 = _; have := t.pos; omega
  generalize Cl.bin sb t (.is (d2 - 99) 1 (d3 - 99) (d4 % (2 + d0)) (2 + d0)) = u at hc4 uok ud
  have hpt := Cl.pts uok
  have lm := lcmP_le hpt
  have ul := Cl.post_small (c := u) (by omega)
  refine q_asg (ev_callV (ea_cons (ev_var rfl) ea_nil) (sv_lcm hc4 hpt)) fun H5 e5 => ?_
  have e15 : Ex H1 H5 := ((e2.trans e3).trans e4).trans e5
  generalize lcmP u.post = many at lm
  refine q_forR1 (n := 12) (ea_cons ev_c ea_nil) ⟨by decide, by decide⟩ (fun i σ' H' => ∃ (o4 o6 o7 : Option V), σ' = [some (.ref pc2), some (.int c), some (.ref pd), some (.int (2 + d0)), o4, some (.int (many : Nat)), o6, o7] ∧ Ex H5 H')
    (fun H6 e6 => ⟨_, none, none, rfl, e6⟩) ?_ ?_
  · rintro i σ' H' hi ⟨o4, o6, o7, rfl, e6⟩
    refine q_asg (ev_op ev_c (ev_mod (ev_int (ev_op (ix (e15.trans e6) rfl rfl) (ev_var rfl) rv_I0)) ev_c (by decide)) rv_I0) fun H7 e7 => ?_
    have y0 : 0 ≤ (d1 + (i : Int)) % 12 := Int.emod_nonneg _ (by decide)
    have y1 : (d1 + (i : Int)) % 12 < 12 := Int.emod_lt_of_pos _ (by decide)
    generalize hby : 1 + (d1 + (i : Int)) % 12 = by0
    have by1 : 1 ≤ by0 ∧ by0 ≤ 12 := by omega
    have em : by0 = ((by0.toNat : Nat) : Int) := by omega
    have gp : 0 < Nat.gcd many by0.toNat := Nat.gcd_pos_of_pos_left _ lm.2
    have gle : Nat.gcd many by0.toNat ≤ many := Nat.le_of_dvd lm.2 (Nat.gcd_dvd_left _ _)
    refine s_when (et_test (ev_op (ev_fdiv (j := ((Nat.gcd many by0.toNat : Nat) : Int)) (ev_mul (ev_var rfl) (ev_var rfl) (.inl ⟨by omega, by omega⟩)) (ev_callV (ea_cons (ev_var rfl) (ea_cons (ev_is (ev_var rfl) (by rw [← em])) ea_nil)) (sv_gcd (by omega))) ⟨by omega, by omega⟩) ev_c rv_I0)) (fun hb H8 e8 => ?_) fun hb H8 e8 => ⟨_, _, _, rfl, (e6.trans e7).trans e8⟩
    have e18 := ((e15.trans e6).trans e7).trans e8
    have l2 : LeafOk 1 (d3 - 99) (d2 - 99) (d5 % by0) by0 := ⟨by omega, by omega, by omega, by1, Int.emod_nonneg _ (by omega), by have := Int.emod_lt_of_pos d5 (show 0 < by0 by omega); omega⟩
    refine q_asgP (evp_leaf (K := K) ev_c (ev_op (ix e18 rfl rfl) ev_c rv_I0) (ev_op (ix e18 rfl rfl) ev_c rv_I0) (ev_mod (ev_int (ix e18 rfl rfl)) (ev_var rfl) (by omega)) (ev_var rfl)) fun v9 H9 e9 hl9 => ?_
    have hc9 := ((((hc4.mo e5).mo e6).mo e7).mo e8).mo e9
    refine s_retP (evp_catC (K := K) (evp_catC (K := K) (evp_lstC (eapt_cons (evp_var rfl fun H10 e10 => hl9.mo e10) fun _ _ => eapt_nil) (by show 1 ≤ 100000; decide)) (fun H10 e10 => evp_var rfl fun H11 e11 => ⟨pc2, rfl, hc9.mo (e10.trans e11)⟩) (by show 1 + _ ≤ _; omega))
      (fun H10 e10 => evp_lstC (eapt_cons (evp_word (K := K) (ev_orAnd (ix ((e18.trans e9).trans e10) rfl rfl) b7.1 b7.2) fun a H h => partAt_bin (K := K) _ h) fun _ _ => eapt_nil) (by show 1 ≤ 100000; decide)) (by rw [List.length_append]; show 1 + _ + 1 ≤ _; omega)) fun v10 H10 e10 hv => ?_
    have ep2 : (Cl.bin (decide (d7 = 0)) (.is 1 (d3 - 99) (d2 - 99) (d5 % by0) by0) u).post = [Pt.is 1 (d3 - 99) (d2 - 99) (d5 % by0) by0] ++ u.post ++ [Pt.bin (decide (d7 = 0))] := Cl.post_bin _ _ _
    rw [← ep2] at hv
    refine q _ (Cl.ok_bin (a := .is 1 (d3 - 99) (d2 - 99) (d5 % by0) by0) _ l2 uok) (by rw [Cl.depth_bin]; show max 1 u.depth + 1 ≤ _; have := u.pos; omega) _ _ ((e1.trans e18).trans (e9.trans e10)) hv
  · rintro σ' H' ⟨o4, o6, o7, rfl, e6⟩
    exact s_ret (ev_var rfl) fun H7 e7 => q u uok (by omega) _ _ (((e1.trans e15).trans e6).trans e7) ⟨pc2, rfl, ((hc4.mo e5).mo e6).mo e7⟩
theorem df_says (S : At K mg "_law_says" sLawSays ["told", "due"]) : Df P w K mg base CX0 "_law_says" 1 ["told", "due"] spSays := by
  obtain ⟨f, fd, F, m, b⟩ := S
  refine ⟨f, fd, m, F.kp, b, F.ok scLawSays (fun vs H Q E h => ?_) (fun cdv A outer s H vs Q E hr h => ?_)⟩
  · obtain ⟨b, rfl, _⟩ := h
    rfl
  obtain ⟨b, rfl, q⟩ := h
  refine ⟨_, (pss_cons (ps_if (pt_val (pv 1)) (pss_one (ps_ret (pe_cmpR op_isBl (pv 0) pe_bl (nomark _)))) pss_nil)
  (pss_one (ps_ret (pe_cmpR op_isBl (pv 0) pe_bl (nomark _))))), ?_⟩
  cases b with
  | true => exact q_when (b := true) (et_B (ev_var rfl)) (fun _ H1 e1 => s_ret (ev_op (ev_var rfl) ev_c rv_isB) fun H2 e2 => q _ (e1.trans e2)) fun z => nomatch z
  | false => exact q_when (b := false) (et_B (ev_var rfl)) (fun z => nomatch z) fun _ H1 e1 => s_ret (ev_op (ev_var rfl) ev_c rv_isB) fun H2 e2 => q _ (e1.trans e2)
abbrev sLawAsked : Stmt := top 42
theorem scLawAsked : FnScope ["code", "deep", "rows", "mode", "given", "row", "due", "handed"] ["code", "deep", "rows", "mode"] (defScope sLawAsked) := ⟨rfl, rfl, rfl, by decide +kernel, rfl, by decide +kernel, by decide +kernel⟩
def spAsked (K : PySem.W.Frag) : Sp := fun vs H Q _ => ∃ (pc pr : Addr) (deep : Bool) (mode : Int) (t : Cl) (rs : List V), vs = [.ref pc, .bl deep, .ref pr, .int mode] ∧ CodeAt K H pc t.post ∧ t.Ok ∧ t.depth ≤ 8 ∧ (deep = false → t.depth ≤ 7) ∧
  H pr = some (.lst rs) ∧ (∀ v ∈ rs, IsRow3 v H) ∧ RetV (.bl true) H Q
theorem df_asked (DLawBuilt : Df P w K mg base CX0 "_law_built" 1 ["code", "mode"] (spBuilt K)) (DCheckClaim : Df P w K mg base CX0 "check_claim" 13 ["claim"] (spCheckClaim K)) (DLawModulusTold : Df P w K mg base CX0 "_law_modulus_told" 15 ["given", "many"] (spModTold K)) (DLawLcm : Df P w K mg base CX0 "_law_lcm" 2 ["code"] (spLcm K))
    (DLawTrue : Df P w K mg base CX0 "_law_true" 2 ["code", "row"] (spTrue K)) (DLawSays : Df P w K mg base CX0 "_law_says" 1 ["told", "due"] spSays) (DHolds : Df P w K mg base CX0 "holds" 14 ["claim", "row"] (spHolds K)) (B : Bi mg) (S : At K mg "_law_asked" sLawAsked ["code", "deep", "rows", "mode"]) :
    Df P w K mg base CX0 "_law_asked" 16 ["code", "deep", "rows", "mode"] (spAsked K) := by
  obtain ⟨f, fd, F, m, b⟩ := S
  refine ⟨f, fd, m, F.kp, b, F.ok scLawAsked (fun vs H Q E h => ?_) (fun cdv A outer s H vs Q E hr h => ?_)⟩
  · obtain ⟨pc, pr, deep, mode, t, rs, rfl, _⟩ := h
    rfl
  obtain ⟨pc, pr, deep, mode, t, rs, rfl, hc, tok, td, tdd, hrs, hrows, q⟩ := h
  refine ⟨_, (pss_cons (ps_set (i := 4) scLawAsked.nd rfl (Or.inl rfl) (pe_df DLawBuilt hr pass0 (pa_cons (pv 0) (pa_cons (pv 3) pa_nil))))
  (pss_cons (ps_if (PW.pt (pw_or (pt_cmpR op_notN (pe_df DCheckClaim hr pass0 (pa_cons (pv 4) pa_nil)) pe_non (nomark _)) (pw_or1 (pt_not (pt_val (pe_df DLawModulusTold hr pass0 (pa_cons (pv 4) (pa_cons (pe_df DLawLcm hr pass0 (pa_cons (pv 0) pa_nil)) pa_nil)))))))) (pss_one (ps_ret pe_bl)) pss_nil)
  (pss_cons (ps_for PassesOwn.never rfl (pi_list (pv 2)) (pg_name (i := 5) scLawAsked.nd rfl (Or.inl rfl)) (pss_cons (ps_set (i := 6) scLawAsked.nd rfl (Or.inl rfl) (pe_df DLawTrue hr pass0 (pa_cons (pv 0) (pa_cons (pv 5) pa_nil))))
  (pss_cons (ps_set (i := 7) scLawAsked.nd rfl (Or.inl rfl) (pe_callTy call_list_of rfl B.list PyProof.Rows.boot_list (pa_cons (pv 5) pa_nil)))
  (pss_cons (ps_if (PW.pt (pw_or (pt_not (pt_val (pe_df DLawSays hr pass0 (pa_cons (pe_df DHolds hr pass0 (pa_cons (pv 4) (pa_cons (pv 7) pa_nil))) (pa_cons (pv 6) pa_nil))))) (pw_or1 (pt_cmpR (op_neP (hu64 hr)) (pv 7) (pe_callTy call_list_of rfl B.list PyProof.Rows.boot_list (pa_cons (pv 5) pa_nil)) (nomark _))))) (pss_one (ps_ret pe_bl)) pss_nil)
  (pss_one (ps_if (PW.pt (pw_and (pt_not (pt_val (pv 1))) (pw_and1 (pt_not (pt_val (pe_df DLawSays hr pass0 (pa_cons (pe_df DHolds hr pass0 (pa_cons (pe_tup (pa_cons pe_str (pa_cons (pv 4) pa_nil))) (pa_cons (pe_callTy call_tuple_of rfl B.tuple PyProof.Rows.boot_tuple (pa_cons (pv 5) pa_nil)) pa_nil))) (pa_cons (pe_not (pv 6)) pa_nil)))))))) (pss_one (ps_ret pe_bl)) pss_nil))))))
  (pss_one (ps_ret (pe_cmpR (op_eqP (hu64 hr)) (pv 4) (pe_df DLawBuilt hr pass0 (pa_cons (pv 0) (pa_cons (pv 3) pa_nil))) (nomark _))))))), ?_⟩
  obtain ⟨_, hcl, hdep⟩ := built_all mode t
  obtain ⟨dseq, hseq⟩ := isCl_seq hcl
  refine q_asgP (evp_call (ea_cons (ev_var rfl) (ea_cons (ev_var rfl) ea_nil)) (sv_built hc (by omega))) fun gv H1 e1 hg => ?_
  have hpts := Cl.pts tok
  refine q_when (b := false) (et_is (et_or (et_test (ev_op (ev_callV (ea_cons (ev_var rfl) ea_nil) (sv_checkClaim hg hcl tok td)) ev_c rv_notN)) fun _ => et_not (et_B (ev_callV (ea_cons (ev_var rfl) (ea_cons (ev_is (ev_callV (ea_cons (ev_var rfl) ea_nil) (sv_lcm (hc.mo e1) hpts)) (by rw [lcmP_post])) ea_nil)) (sv_modTold hg hcl tok td)))) rfl) (fun z => nomatch z) fun _ H2 e2 => ?_
  refine q_forLn (ev_var rfl) (sq_of ((e1.trans e2) _ _ hrs)) (fun i σ' H' => ∃ (o5 o6 o7 : Option V), σ' = [some (.ref pc), some (.bl deep), some (.ref pr), some (.int mode), some gv, o5, o6, o7] ∧ Ex H2 H') (fun H3 e3 => ⟨none, none, none, rfl, e3⟩) (fun i σ' H' _ h => by
    obtain ⟨_, _, _, _, e3⟩ := h
    exact sq_of (((e1.trans e2).trans e3) _ _ hrs)) ?_ ?_
  · rintro i v σ' H' hi ⟨o5, o6, o7, rfl, e3⟩
    have ea := (e1.trans e2).trans e3
    obtain ⟨rq, x, y, z, rfl, hrow⟩ := hrows v (mem_of_get hi)
    have hrow3 := ea _ _ hrow
    have hg3 := (hg.mo e2).mo e3
    refine q_asg (ev_callV (ea_cons (ev_var rfl) (ea_cons (ev_var rfl) ea_nil)) (sv_true (hc.mo ea) tok (by omega) (.inl (sq_of hrow3)))) fun H4 e4 => ?_
    refine q_asgL (el_listQ (ev_var rfl) (.inl (sq_of (e4 _ _ hrow3)))) fun ph H5 hph e5 h5 => ?_
    refine q_when (b := false) (et_is (et_or (et_not (et_B (ev_callV (ea_cons (ev_callV (ea_cons (ev_var rfl) (ea_cons (ev_var rfl) ea_nil)) (sv_holds ((hg3.mo e4).mo e5) (.inl (sq_of h5)) hcl tok td)) (ea_cons (ev_var rfl) ea_nil)) sv_says))) fun _ =>
      et_test (ev_opL (ev_var rfl) (el_listQ (ev_var rfl) (.inl (sq_of (e5 _ _ (e4 _ _ hrow3))))) fun p H6 hp e6 => fun H7 e7 Q' q' => ⟨.lst [.int x, .int y, .int z], _, .lst (sq_of ((e6.trans e7) _ _ h5)) (RpAll.ints [x, y, z]), .lst (sq_of (e7 _ _ hp)) (RpAll.ints [x, y, z]), rfl, by show 1 ≤ 60; decide, q' H7 (Ex.refl H7)⟩)) rfl) (fun z => nomatch z) fun _ H6 e6 => ?_
    have hg6 := ((hg3.mo e4).mo e5).mo e6
    have hrow6 := e6 _ _ (e5 _ _ (e4 _ _ hrow3))
    refine s_when (b := false) (et_is (et_and (a := !deep) (b := false) (et_not (et_B (ev_var rfl))) fun hdp => ?_) (Bool.and_false _)) (fun z => nomatch z) fun _ H7 e7 => ⟨_, _, _, rfl, (((e3.trans e4).trans e5).trans e6).trans e7⟩
    have hdp' : deep = false := by simpa using hdp
    have td7 := tdd hdp'
    refine et_is (et_not (et_B (ev_callV (ea_cons (ev_evp (evp_callP (R := fun vs H7 => ∃ (p2 r2 : Addr), vs = [.ref p2, .ref r2] ∧ SqT K H7 p2 [.str "not", gv] ∧ SqT K H7 r2 [.int x, .int y, .int z]) ?_ fun vs H7 e7 hv => ?_)) (ea_cons (ev_notV (ev_var rfl)) ea_nil)) (sv_says (b := !t.at x y z))))) rfl
    · refine eap_cons (P := IsU [.str "not", gv]) (evp_U (eu_tup (ea_cons ev_c (ea_cons (ev_var rfl) ea_nil)) (by show 2 ≤ 100000; decide)) fun p H8 _ h8 => ⟨p, rfl, h8⟩) fun v H8 e8 hv => ?_
      obtain ⟨p2, rfl, hp2⟩ := hv
      refine eap_cons (P := IsU [.int x, .int y, .int z]) (evp_U (eu_tupOf (ev_var rfl) (sq_of (e8 _ _ hrow6))) fun p H9 _ h9 => ⟨p, rfl, h9⟩) fun v H9 e9 hv => ?_
      obtain ⟨r2, rfl, hr2⟩ := hv
      exact fun H10 e10 Q' q' => q' [] H10 (Ex.refl H10) ⟨p2, r2, rfl, st_of ((e9.trans e10) _ _ hp2), st_of (e10 _ _ hr2)⟩
    · obtain ⟨p2, r2, rfl, h1, h2⟩ := hv
      exact SpV.p (sv_holds (c := .not t) (d := .tup [.str "not", builtD mode t]) (.tup h1 (.cons (.str _) (.cons (hg6.mo e7) .nil))) (.inr h2) ⟨builtD mode t, rfl, hcl⟩ tok (by show t.depth + 1 ≤ 8; omega))
  · rintro σ' H' ⟨o5, o6, o7, rfl, e3⟩
    have ea := (e1.trans e2).trans e3
    have hg3 := (hg.mo e2).mo e3
    refine s_retP (P := fun v _ => v = .bl true) (evp_op (P1 := fun v _ => v = gv) (P2 := fun v H => Rp K H v (builtD mode t)) (evp_var rfl fun _ _ => rfl) (fun v H4 e4 hv => evp_call (ea_cons (ev_var rfl) (ea_cons (ev_var rfl) ea_nil)) (sv_built ((hc.mo ea).mo e4) (by omega))) fun v w H5 e5 hw h0 Q' q' => ?_) fun v H6 e6 hv => ?_
    · obtain ⟨H0, _, _, rfl⟩ := h0
      exact ⟨builtD mode t, dseq, hg3.mo e5, hw, hseq, by omega, q' _ _ (Ex.refl H5) rfl⟩
    · rw [hv]
      exact q _ (ea.trans e6)
end
end Kf

set_option Elab.async false
set_option linter.all false
set_option maxRecDepth 100000
set_option maxHeartbeats 4000000
namespace Kf
open PySem L2 Evl
def IsInt : Pr := fun v _ => ∃ c : Int, v = .int c
section
variable {K : PySem.W.Frag} {σ : L2.St} {H H' : Hp} {ta tb tc td te tm tn tl : TE} {tr : TA} {E : XK} {tz : TS} {D : Ends}
theorem evp_cell {a : Addr} {ns : List Int} {i : Int} (k : Nat) (ha : Ev ta σ H (.ref a)) (h : SqL K H a (ns.map V.int)) (e : i = (k : Int)) (hk : k ≤ 100) : EvP (tCall (spCell K) [] E (tCons ta (tCons (tC (.int i)) tNil))) σ H IsInt := by
  subst e
  exact evp_call (ea_cons ha (ea_cons ev_c ea_nil)) (sv_cell h hk)
theorem evp_great (h : EvP tc σ H IsInt) : EvP (tCall spGreat [] E (tCons tc tNil)) σ H IsRow3 :=
  evp_callP (R := fun vs _ => ∃ c : Int, vs = [.int c]) (eap_cons h fun v H1 e1 hv => by
    obtain ⟨c, rfl⟩ := hv
    exact fun H2 e2 Q q => q [] H2 (Ex.refl H2) ⟨c, rfl⟩) fun vs H1 e1 hv => by
    obtain ⟨c, rfl⟩ := hv
    exact sv_great
theorem evp_digitsP {xs : List V} (ss : List Int) (ha : EvP tc σ H IsInt) (hb : EvL tb σ H xs) (e : xs = ss.map V.int) (hs : ∀ s ∈ ss, 1 ≤ s ∧ s ≤ 1000000001) (hl : ss.length ≤ 1000) :
    EvP (tCall (spDigits K) [] E (tCons tc (tCons tb tNil))) σ H fun v H1 => ∃ q ds, v = .ref q ∧ DigOk ss ds ∧ H1 q = some (.lst (ds.map V.int)) := by
  subst e
  refine evp_callP (R := fun vs H1 => ∃ (c : Int) (p : Addr), vs = [.int c, .ref p] ∧ H1 p = some (.lst (ss.map V.int))) ?_ fun vs H1 e1 hv => ?_
  · refine eap_cons ha fun v H1 e1 hv => ?_
    obtain ⟨c, rfl⟩ := hv
    refine eap_cons (P := IsL (ss.map V.int)) (evp_L (hb.mono e1) fun p H2 _ h2 => ⟨p, rfl, h2⟩) fun v H2 e2 hv => ?_
    obtain ⟨p, rfl, hp⟩ := hv
    exact fun H3 e3 Q q => q [] H3 (Ex.refl H3) ⟨c, p, rfl, e3 _ _ hp⟩
  · obtain ⟨c, p, rfl, hp⟩ := hv
    exact sv_digits (sq_of hp) hs hl
theorem evp_code {pn pm : Addr} {i : Int} {ms : List Int} {x y z : Int} (most : Nat) (h : EvP tc σ H IsInt) (hn : Ev tn σ H (.ref pn)) (hm : Ev tm σ H (.ref pm)) (h1 : Sq K H pn [.int x, .int y, .int z]) (h2 : SqL K H pm (ms.map V.int)) (om : MenuOk ms) (e : i = (most : Int)) (m1 : 1 ≤ most) (m5 : most ≤ 5) :
    EvP (tCall (spCode K) [] E (tCons tc (tCons tn (tCons tm (tCons (tC (.int i)) tNil))))) σ H fun v H1 => ∃ t : Cl, t.Ok ∧ t.depth ≤ most + 2 ∧ IsCodeD K t v H1 := by
  subst e
  refine evp_callP (R := fun vs _ => ∃ c : Int, vs = [.int c, .ref pn, .ref pm, .int (most : Int)]) (eap_cons h fun v H1 e1 hv => ?_) fun vs H1 e1 hv => ?_
  · obtain ⟨c, rfl⟩ := hv
    exact fun H2 e2 Q q => hn H2 (e1.trans e2) _ fun H3 e3 => hm H3 ((e1.trans e2).trans e3) _ fun H4 e4 => q [.ref pn, .ref pm, .int (most : Int)] H4 (e3.trans e4) ⟨c, rfl⟩
  · obtain ⟨c, rfl⟩ := hv
    exact fun H2 e2 Q q E => ⟨c, pn, pm, most, ms, x, y, z, rfl, h1.ex (e1.trans e2), ex_l (e1.trans e2) h2, om, m1, m5, fun t ok hd v H3 e3 hv => q v H3 e3 ⟨t, ok, hd, hv⟩⟩
theorem q_asg2R {i j : Nat} {R : V → V → Hp → Prop} (h : EvP te σ H fun v H1 => ∃ a x y, v = .ref a ∧ SqT K H1 a [x, y] ∧ R x y H1) (k : ∀ x y H1, Ex H H1 → R x y H1 → tz D ((σ.set i (some x)).set j (some y)) H1) :
    tSeq (tAsg te (gTup K 2 (gCons (gName i) (gCons (gName j) gNil)))) tz D σ H := h H (Ex.refl H) _ fun v H1 a p => by
  obtain ⟨q, x, y, rfl, hq, r⟩ := p
  exact ⟨q, [x, y], rfl, hq, rfl, x, [y], rfl, y, [], rfl, rfl, k x y H1 a r⟩
theorem IsRow3.mo {v : V} (h : IsRow3 v H) (e : Ex H H') : IsRow3 v H' := by
  obtain ⟨q, x, y, z, a, b⟩ := h
  exact ⟨q, x, y, z, a, e _ _ b⟩
theorem ev_asked {pc : Addr} {deep : Bool} {mode : Int} {t : Cl} {rs : List V} (h1 : Ev tc σ H (.ref pc)) (h2 : Ev td σ H (.bl deep)) (h3 : EvL tl σ H rs) (h4 : Ev tm σ H (.int mode)) (hc : CodeAt K H pc t.post) (ok : t.Ok) (td8 : t.depth ≤ 8) (td7 : deep = false → t.depth ≤ 7) (hr : ∀ v ∈ rs, IsRow3 v H) :
    Ev (tCall (spAsked K) [] E (tCons tc (tCons td (tCons tl (tCons tm tNil))))) σ H (.bl true) := ev_evp (by
  refine evp_callP (R := fun vs H1 => ∃ pr, vs = [.ref pc, .bl deep, .ref pr, .int mode] ∧ H1 pr = some (.lst rs)) (fun H1 e1 Q q => h1 H1 e1 _ fun H2 e2 => h2 H2 (e1.trans e2) _ fun H3 e3 => h3 H3 ((e1.trans e2).trans e3) _ fun p H4 _ e4 hp => h4 H4 (((e1.trans e2).trans e3).trans e4) _ fun H5 e5 => q _ H5 (((e2.trans e3).trans e4).trans e5) ⟨p, rfl, e5 _ _ hp⟩) fun vs H1 e1 hv => ?_
  obtain ⟨pr, rfl, hp⟩ := hv
  exact SpV.p fun H2 e2 Q q E => ⟨pc, pr, deep, mode, t, rs, rfl, (hc.mo e1).mo e2, ok, td8, td7, e2 _ _ hp, fun v hv => ((hr v hv).mo e1).mo e2, q⟩)
def spLaw (K : PySem.W.Frag) : Sp := fun vs H Q _ => ∃ (a : Addr) (ns : List Int), vs = [.ref a] ∧ SqL K H a (ns.map V.int) ∧ ns.length ≤ 63 ∧ ∀ H', Q (.bl true) H'
end
section
variable {P : Program} {w : World} {K : PySem.W.Frag} {mg : Str → Option Value} {base : Heap} {H : Hp}
abbrev sLaw : Stmt := top 43
theorem scLaw : FnScope ["script", "head", "menu", "near", "far", "code", "depth", "many", "moved", "tall", "height", "k"] ["script"] (defScope sLaw) := ⟨rfl, rfl, rfl, by decide +kernel, rfl, by decide +kernel, by decide +kernel⟩
theorem ok_law {f : Addr} {fd : FuncData} (DLawDigits : Df P w K mg base CX0 "_law_digits" 1 ["cell", "sizes"] (spDigits K)) (DLawCell : Df P w K mg base CX0 "_law_cell" 1 ["script", "k"] (spCell K)) (DLawModuli : Df P w K mg base CX0 "_law_moduli" 1 ["kind"] spModuli) (DLawGreatRow : Df P w K mg base CX0 "_law_great_row" 2 ["cell"] spGreat)
    (DLawCode : Df P w K mg base CX0 "_law_code" 3 ["cell", "near", "menu", "most"] (spCode K)) (DLawWrapped : Df P w K mg base CX0 "_law_wrapped" 3 ["code", "depth", "goal", "cell", "near", "menu"] (spWrapped K)) (DLawLcm : Df P w K mg base CX0 "_law_lcm" 2 ["code"] (spLcm K))
    (DLawAsked : Df P w K mg base CX0 "_law_asked" 16 ["code", "deep", "rows", "mode"] (spAsked K)) (DLawBeyond : Df P w K mg base CX0 "_law_beyond" 3 ["code", "cell"] (spBeyond K)) (DLawSays : Df P w K mg base CX0 "_law_says" 1 ["told", "due"] spSays) (DHolds : Df P w K mg base CX0 "holds" 14 ["claim", "row"] (spHolds K))
    (DLawBuilt : Df P w K mg base CX0 "_law_built" 1 ["code", "mode"] (spBuilt K)) (DLawTrue : Df P w K mg base CX0 "_law_true" 2 ["code", "row"] (spTrue K)) (B : Bi mg) (F : Fun K "law" "law" sLaw f fd) : FnOk P w K mg base CX0 17 f fd ["script"] (spLaw K) := by
  refine F.ok scLaw (fun vs H Q E h => ?_) (fun cdv A outer s H vs Q E hr h => ?_)
  · obtain ⟨a, ns, rfl, _⟩ := h
    rfl
  obtain ⟨a, ns, rfl, hS, h63, q⟩ := h
  refine ⟨_, (pss_cons (ps_set (i := 1) scLaw.nd rfl (Or.inl rfl) (pe_df DLawDigits hr pass0 (pa_cons (pe_df DLawCell hr pass0 (pa_cons (pv 0) (pa_cons pe_int pa_nil))) (pa_cons (pe_lst (pa_cons pe_int (pa_cons pe_int (pa_cons pe_int (pa_cons pe_int pa_nil))))) pa_nil))))
  (pss_cons (ps_set (i := 2) scLaw.nd rfl (Or.inl rfl) (pe_df DLawModuli hr pass0 (pa_cons (pe_ix ix_list (pe_lst (pa_cons pe_int (pa_cons pe_int (pa_cons pe_int (pa_cons pe_int (pa_cons pe_int (pa_cons pe_int (pa_cons pe_int (pa_cons pe_int (pa_cons pe_int (pa_cons pe_int (pa_cons pe_int (pa_cons pe_int (pa_cons pe_int (pa_cons pe_int (pa_cons pe_int (pa_cons pe_int pa_nil))))))))))))))))) (pe_ix ix_list (pv 1) pe_int (fun _ _ => rfl)) (fun _ _ => rfl)) pa_nil)))
  (pss_cons (ps_set (i := 3) scLaw.nd rfl (Or.inr rfl) (pe_df DLawGreatRow hr pass0 (pa_cons (pe_df DLawCell hr pass0 (pa_cons (pv 0) (pa_cons pe_int pa_nil))) pa_nil)))
  (pss_cons (ps_set (i := 4) scLaw.nd rfl (Or.inr rfl) (pe_df DLawGreatRow hr pass0 (pa_cons (pe_df DLawCell hr pass0 (pa_cons (pv 0) (pa_cons pe_int pa_nil))) pa_nil)))
  (pss_cons (ps_asg (pe_df DLawCode hr pass0 (pa_cons (pe_df DLawCell hr pass0 (pa_cons (pv 0) (pa_cons pe_int pa_nil))) (pa_cons (pv 3) (pa_cons (pv 2) (pa_cons pe_int pa_nil))))) (pg_tup rfl (pgs_cons (pg_name (i := 5) scLaw.nd rfl (Or.inl rfl)) (pgs_cons (pg_name (i := 6) scLaw.nd rfl (Or.inl rfl)) pgs_nil))))
  (pss_cut (ps_if (pt_cmpR op_eq (pe_ix ix_list (pv 1) pe_int (fun _ _ => rfl)) pe_int (nomark _)) (pss_cons (ps_set (i := 5) scLaw.nd rfl (Or.inl rfl) (pe_df DLawWrapped hr pass0 (pa_cons (pv 5) (pa_cons (pv 6) (pa_cons pe_int (pa_cons (pe_df DLawCell hr pass0 (pa_cons (pv 0) (pa_cons pe_int pa_nil))) (pa_cons (pv 3) (pa_cons (pv 2) pa_nil))))))))
  (pss_one (ps_set (i := 6) scLaw.nd rfl (Or.inl rfl) pe_int))) pss_nil)
  (pss_cons (ps_set (i := 7) scLaw.nd rfl (Or.inr rfl) (pe_df DLawLcm hr pass0 (pa_cons (pv 5) pa_nil)))
  (pss_cons (ps_setLc (i := 8) (own := [("k", 11)]) (g := gName 11) (by rfl) scLaw.nd rfl rfl (sw_true rfl rfl rfl (by decide +kernel)) (pi_range1 rfl B.range (pa_cons pe_int pa_nil)) (blkOk_by (own := [("k", 11)]) (N := ["script", "head", "menu", "near", "far", "code", "depth", "many", "moved", "tall", "height", "k"]) (sc := defScope sLaw) (by decide +kernel)) (fun _ _ _ _ _ => pg_name (i := 11) scLaw.nd rfl (Or.inl rfl)) (fun _ _ _ _ _ => pts_nil) (fun _ _ _ _ _ => (pe_op op_add (pe_ix (r := rIxL K) ix_list (pv 3) (pv 11) (fun _ _ => rfl)) (pe_op op_mul (pv 7) (pe_ix (r := rIxL K) ix_list (pv 4) (pv 11) (fun _ _ => rfl))))))
  (pss_cons (ps_if (pt_not (pt_val (pe_df DLawAsked hr pass0 (pa_cons (pv 5) (pa_cons (pe_cmpR op_eq (pv 6) pe_int (nomark _)) (pa_cons (pe_lst (pa_cons (pv 3) (pa_cons (pv 8) (pa_cons (pv 4) pa_nil)))) (pa_cons (pe_ix ix_list (pv 1) pe_int (fun _ _ => rfl)) pa_nil))))))) (pss_one (ps_ret pe_bl)) pss_nil)
  (pss_cons (ps_asg (pe_df DLawCode hr pass0 (pa_cons (pe_df DLawCell hr pass0 (pa_cons (pv 0) (pa_cons pe_int pa_nil))) (pa_cons (pv 4) (pa_cons (pv 2) (pa_cons pe_int pa_nil))))) (pg_tup rfl (pgs_cons (pg_name (i := 9) scLaw.nd rfl (Or.inl rfl)) (pgs_cons (pg_name (i := 10) scLaw.nd rfl (Or.inl rfl)) pgs_nil))))
  (pss_cons (ps_set (i := 9) scLaw.nd rfl (Or.inl rfl) (pe_df DLawBeyond hr pass0 (pa_cons (pv 9) (pa_cons (pe_df DLawCell hr pass0 (pa_cons (pv 0) (pa_cons pe_int pa_nil))) pa_nil))))
  (pss_cons (ps_if (pt_not (pt_val (pe_df DLawAsked hr pass0 (pa_cons (pv 9) (pa_cons (pe_cmpR op_gt (pv 10) pe_int (nomark _)) (pa_cons (pe_lst (pa_cons (pv 3) (pa_cons (pv 4) pa_nil))) (pa_cons (pe_ix ix_list (pv 1) pe_int (fun _ _ => rfl)) pa_nil))))))) (pss_one (ps_ret pe_bl)) pss_nil)
  (pss_one (ps_ret (pe_df DLawSays hr pass0 (pa_cons (pe_df DHolds hr pass0 (pa_cons (pe_df DLawBuilt hr pass0 (pa_cons (pv 5) (pa_cons (pe_ix ix_list (pv 1) pe_int (fun _ _ => rfl)) pa_nil))) (pa_cons (pe_callTy call_tuple_of rfl B.tuple PyProof.Rows.boot_tuple (pa_cons (pv 3) pa_nil)) pa_nil))) (pa_cons (pe_df DLawTrue hr pass0 (pa_cons (pv 5) (pa_cons (pv 3) pa_nil))) pa_nil))))))))))))))))), ?_⟩
  refine q_asgP (evp_digitsP [16, 3, 3, 4] (evp_cell 0 (ev_var rfl) hS rfl (by decide)) (el_lst (ea_cons ev_c (ea_cons ev_c (ea_cons ev_c (ea_cons ev_c ea_nil)))) (by show 4 ≤ 100000; decide)) rfl (by decide) (by decide)) fun v H1 e1 hv => ?_
  obtain ⟨ph, ds, rfl, ok, hd⟩ := hv
  have dl : ds.length = 4 := ok.1
  match ds, dl with
  | [d0, d1, d2, d3], _ =>
  have b0 := ok.2 0 16 d0 rfl rfl
  have hdq : SqL K H1 ph [.int d0, .int d1, .int d2, .int d3] := sq_of hd
  have ix : ∀ {H' : Hp} {j : Int} {v : V} {σ : L2.St}, Ex H1 H' → σ[1]? = some (some (.ref ph)) → atI [V.int d0, .int d1, .int d2, .int d3] j = some v → Ev (tOp (rIxL K) (tVar 1) (tC (.int j))) σ H' v := fun e hs h => ev_op (ev_var hs) ev_c (rv_ixL (ex_l e hdq) h)
  have km : 0 ≤ ([8, 0, 8, 1, 8, 2, 8, 3, 8, 4, 8, 5, 8, 6, 8, 7] : List Int).getD d0.toNat 0 ∧ ([8, 0, 8, 1, 8, 2, 8, 3, 8, 4, 8, 5, 8, 6, 8, 7] : List Int).getD d0.toNat 0 ≤ 8 := by
    have k := getD_mem (l := [8, 0, 8, 1, 8, 2, 8, 3, 8, 4, 8, 5, 8, 6, 8, 7]) b0.1 b0.2
    simp only [List.mem_cons, List.not_mem_nil, or_false] at k
    omega
  refine q_asgP (evp_call (ea_cons (ev_pick (xs := [8, 0, 8, 1, 8, 2, 8, 3, 8, 4, 8, 5, 8, 6, 8, 7]) (el_lst (ea_cons ev_c (ea_cons ev_c (ea_cons ev_c (ea_cons ev_c (ea_cons ev_c (ea_cons ev_c (ea_cons ev_c (ea_cons ev_c (ea_cons ev_c (ea_cons ev_c (ea_cons ev_c (ea_cons ev_c (ea_cons ev_c (ea_cons ev_c (ea_cons ev_c (ea_cons ev_c ea_nil)))))))))))))))) (by show 16 ≤ 100000; decide)) rfl (ix (Ex.refl _) rfl rfl) b0.1 b0.2) ea_nil) (sv_moduli km.1 km.2)) fun v H2 e2 hv => ?_
  obtain ⟨pm, ms, rfl, hm, om⟩ := hv
  have hS2 := ex_l (e1.trans e2) hS
  refine q_asgP (evp_great (evp_cell 1 (ev_var rfl) hS2 rfl (by decide))) fun v H3 e3 hv => ?_
  obtain ⟨pn, nx, ny, nz, rfl, hn⟩ := hv
  have hS3 := ex_l e3 hS2
  refine q_asgP (evp_great (evp_cell 2 (ev_var rfl) hS3 rfl (by decide))) fun v H4 e4 hv => ?_
  obtain ⟨pf, fx, fy, fz, rfl, hf⟩ := hv
  have hS4 := ex_l e4 hS3
  have hn4 := e4 _ _ hn
  have hm4 := e4 _ _ (e3 _ _ hm)
  refine q_asg2R (evp_code 5 (evp_cell 3 (ev_var rfl) hS4 rfl (by decide)) (ev_var rfl) (ev_var rfl) (.inl (sq_of hn4)) (sq_of hm4) om rfl (by decide) (by decide) |>.imp fun v H5 e5 hv => ?_) (R := fun x y H5 => ∃ (t : Cl) (pc : Addr), t.Ok ∧ t.depth ≤ 7 ∧ x = .ref pc ∧ y = .int (t.depth : Nat) ∧ CodeAt K H5 pc t.post) fun vx vy H5 e5 hv => ?_
  · obtain ⟨t, ok, td, p, pc, rfl, h1, h2⟩ := hv
    exact ⟨p, _, _, rfl, h1, t, pc, ok, td, rfl, rfl, h2⟩
  obtain ⟨t, pc, tok, td, rfl, rfl, hc⟩ := hv
  have e15 : Ex H1 H5 := (((e2.trans e3).trans e4).trans e5)
  have hS5 := ex_l e5 hS4
  have hn5 := e5 _ _ hn4
  have hm5 := e5 _ _ hm4
  have hf5 := e5 _ _ hf
  refine q_cut (M := fun σ' H6 => ∃ (u : Cl) (pc2 : Addr), σ' = [some (.ref a), some (.ref ph), some (.ref pm), some (.ref pn), some (.ref pf), some (.ref pc2), some (.int (u.depth : Nat)), none, none, none, none, none] ∧ u.Ok ∧ u.depth ≤ 8 ∧ CodeAt K H6 pc2 u.post ∧ Ex H5 H6) ?_ ?_
  · refine s_when (et_test (ev_intEq (ix e15 rfl rfl) ev_c)) (fun hb H6 e6 => ?_) fun hb H6 e6 => ⟨t, pc, rfl, tok, by omega, hc.mo e6, e6⟩
    refine q_asgP (P := fun v H7 => ∃ (u : Cl) (p : Addr), u.Ok ∧ u.depth = 8 ∧ v = .ref p ∧ CodeAt K H7 p u.post) (evp_callP (R := fun vs H7 => ∃ c : Int, vs = [.ref pc, .int (t.depth : Nat), .int 8, .int c, .ref pn, .ref pm]) ?_ fun vs H7 e7 hv => ?_) fun v H7 e7 hv => ?_
    · refine eap_cons (P := fun v _ => v = .ref pc) (evp_var rfl fun _ _ => rfl) fun v H7 e7 hv => ?_
      subst hv
      refine eap_cons (P := fun v _ => v = .int (t.depth : Nat)) (evp_var rfl fun _ _ => rfl) fun v H8 e8 hv => ?_
      subst hv
      refine eap_cons (P := fun v _ => v = .int 8) (evp_ev ev_c fun _ _ => rfl) fun v H9 e9 hv => ?_
      subst hv
      refine eap_cons (evp_cell 4 (ev_var rfl) (ex_l (((e6.trans e7).trans e8).trans e9) hS5) rfl (by decide)) fun v H10 e10 hv => ?_
      obtain ⟨c, rfl⟩ := hv
      exact fun H11 e11 Q' q' => ⟨_, rfl, _, rfl, q' [.ref pn, .ref pm] H11 (Ex.refl H11) ⟨c, rfl⟩⟩
    · obtain ⟨c, rfl⟩ := hv
      have ee := e6.trans e7
      exact fun H8 e8 Q' q' E => ⟨pc, pn, pm, t, 8, c, ms, nx, ny, nz, rfl, (hc.mo ee).mo e8, tok, by omega, by decide, .inl (sq_of ((ee.trans e8) _ _ hn5)), sq_of ((ee.trans e8) _ _ hm5), om, fun u ok hd v H9 e9 hv => by
        obtain ⟨p, rfl, hp⟩ := hv
        exact q' _ H9 e9 ⟨u, p, ok, hd, rfl, hp⟩⟩
    · obtain ⟨u, p, uok, ud, rfl, hp⟩ := hv
      exact s_asg ev_c fun H8 e8 => ⟨u, p, by rw [ud] <;> rfl, uok, by omega, hp.mo e8, (e6.trans e7).trans e8⟩
  · rintro σ6 H6 ⟨u, pc2, rfl, uok, ud, hc6, e6⟩
    have hpts := Cl.pts uok
    refine q_asg (ev_callV (ea_cons (ev_var rfl) ea_nil) (sv_lcm hc6 hpts)) fun H7 e7 => ?_
    have ml := lcmP_le hpts
    generalize lcmP u.post = many at ml
    have hn7 := e7 _ _ (e6 _ _ hn5)
    have hf7 := e7 _ _ (e6 _ _ hf5)
    have hm7 := e7 _ _ (e6 _ _ hm5)
    refine q_asgL (el_lcR1 (n := 3) (fun _ => true) (fun i => .int (([nx, ny, nz] : List Int).getD i 0 + (many : Int) * ([fx, fy, fz] : List Int).getD i 0)) (ea_cons ev_c ea_nil) ⟨by decide, by decide⟩ (fun x => rfl) (fun i H8 e8 hi => fun H9 e9 Q' q' => q' H9 (Ex.refl H9)) fun i H8 e8 hi _ => ?_) fun pv0 H8 hpv e8 hv8 => ?_
    · have hn8 : SqL K H8 pn (([nx, ny, nz] : List Int).map V.int) := sq_of (e8 _ _ hn7)
      have hf8 : SqL K H8 pf (([fx, fy, fz] : List Int).map V.int) := sq_of (e8 _ _ hf7)
      exact ev_op (ev_op (ev_var rfl) (ev_var rfl) (rv_ixL hn8 (atI_ints (by omega) (by show (i : Int) < 3; omega)))) (ev_mul (ev_var rfl) (ev_op (ev_var rfl) (ev_var rfl) (rv_ixL hf8 (atI_ints (by omega) (by show (i : Int) < 3; omega)))) (.inl ⟨by omega, by omega⟩)) rv_I0
    have hn8 := e8 _ _ hn7
    have hf8 := e8 _ _ hf7
    have e18 := ((e15.trans e6).trans e7).trans e8
    have hc8 := (hc6.mo e7).mo e8
    refine q_when (b := false) (et_is (et_not (et_B (ev_asked (deep := decide (((u.depth : Nat) : Int) = 8)) (rs := [.ref pn, .ref pv0, .ref pf]) (ev_var rfl) (ev_intEq (ev_var rfl) ev_c) (el_lst (ea_cons (ev_var rfl) (ea_cons (ev_var rfl) (ea_cons (ev_var rfl) ea_nil))) (by show 3 ≤ 100000; decide)) (ix e18 rfl rfl) hc8 uok ud (fun hb => by
      have := of_decide_eq_false hb
      omega) fun v hv => ?_))) rfl) (fun z => nomatch z) fun _ H9 e9 => ?_
    · rcases List.mem_cons.mp hv with rfl | hv
      · exact ⟨pn, _, _, _, rfl, hn8⟩
      rcases List.mem_cons.mp hv with rfl | hv
      · exact ⟨pv0, _, _, _, rfl, hv8⟩
      rw [List.mem_singleton.mp hv]
      exact ⟨pf, _, _, _, rfl, hf8⟩
    have hS9 := ex_l (((e6.trans e7).trans e8).trans e9) hS5
    have hf9 := e9 _ _ hf8
    have hm9 := e9 _ _ (e8 _ _ hm7)
    refine q_asg2R (evp_code 3 (evp_cell 5 (ev_var rfl) hS9 rfl (by decide)) (ev_var rfl) (ev_var rfl) (.inl (sq_of hf9)) (sq_of hm9) om rfl (by decide) (by decide) |>.imp fun v H10 e10 hv => ?_) (R := fun x y H5 => ∃ (t : Cl) (pc : Addr), t.Ok ∧ t.depth ≤ 5 ∧ x = .ref pc ∧ y = .int (t.depth : Nat) ∧ CodeAt K H5 pc t.post) fun vx vy H10 e10 hv => ?_
    · obtain ⟨t, ok, td, p, pc, rfl, h1, h2⟩ := hv
      exact ⟨p, _, _, rfl, h1, t, pc, ok, td, rfl, rfl, h2⟩
    obtain ⟨t2, pt, t2ok, t2d, rfl, rfl, ht2⟩ := hv
    have hS10 := ex_l e10 hS9
    refine q_asgP (P := fun v H11 => ∃ (u : Cl) (p : Addr), u.Ok ∧ u.depth ≤ 7 ∧ v = .ref p ∧ CodeAt K H11 p u.post) (evp_callP (R := fun vs H7 => ∃ c : Int, vs = [.ref pt, .int c]) ?_ fun vs H11 e11 hv => ?_) fun v H11 e11 hv => ?_
    · refine eap_cons (P := fun v _ => v = .ref pt) (evp_var rfl fun _ _ => rfl) fun v H11 e11 hv => ?_
      subst hv
      refine eap_cons (evp_cell 6 (ev_var rfl) (ex_l e11 hS10) rfl (by decide)) fun v H12 e12 hv => ?_
      obtain ⟨c, rfl⟩ := hv
      exact fun H13 e13 Q' q' => q' [] H13 (Ex.refl H13) ⟨c, rfl⟩
    · obtain ⟨c, rfl⟩ := hv
      exact fun H12 e12 Q' q' E => ⟨pt, c, t2, rfl, (ht2.mo e11).mo e12, t2ok, by omega, fun u ok hd v H13 e13 hv => by
        obtain ⟨p, rfl, hp⟩ := hv
        exact q' _ H13 e13 ⟨u, p, ok, by omega, rfl, hp⟩⟩
    obtain ⟨u2, pt2, u2ok, u2d, rfl, hu2⟩ := hv
    have hn11 := e11 _ _ (e10 _ _ (e9 _ _ hn8))
    have hf11 := e11 _ _ (e10 _ _ hf9)
    have e111 := ((e18.trans e9).trans e10).trans e11
    refine q_when (b := false) (et_is (et_not (et_B (ev_asked (deep := decide (((t2.depth : Nat) : Int) > 5)) (rs := [.ref pn, .ref pf]) (ev_var rfl) (ev_op (ev_var rfl) ev_c rv_I0) (el_lst (ea_cons (ev_var rfl) (ea_cons (ev_var rfl) ea_nil)) (by show 2 ≤ 100000; decide)) (ix e111 rfl rfl) hu2 u2ok (by omega) (fun hb => u2d) fun v hv => ?_))) rfl) (fun z => nomatch z) fun _ H12 e12 => ?_
    · rcases List.mem_cons.mp hv with rfl | hv
      · exact ⟨pn, _, _, _, rfl, hn11⟩
      rw [List.mem_singleton.mp hv]
      exact ⟨pf, _, _, _, rfl, hf11⟩
    have hc12 := ((((hc8.mo e9).mo e10).mo e11).mo e12)
    have hn12 := e12 _ _ hn11
    obtain ⟨_, hcl, hdep⟩ := built_all d1 u
    refine s_ret (v := .bl true) (ev_callV (vs := [.bl (u.at nx ny nz), .bl (u.at nx ny nz)]) (ea_cons (ev_evp (evp_callP (R := fun vs H13 => ∃ (g : V) (r2 : Addr), vs = [g, .ref r2] ∧ Rp K H13 g (builtD d1 u) ∧ SqT K H13 r2 [.int nx, .int ny, .int nz]) ?_ fun vs H13 e13 hv => ?_)) (ea_cons (ev_callV (ea_cons (ev_var rfl) (ea_cons (ev_var rfl) ea_nil)) (sv_true hc12 uok (by omega) (.inl (sq_of hn12)))) ea_nil)) sv_says) fun H13 e13 => q H13
    · refine eap_cons (evp_call (ea_cons (ev_var rfl) (ea_cons (ix (e111.trans e12) rfl rfl) ea_nil)) (sv_built hc12 (by omega))) fun g H13 e13 hg => ?_
      refine eap_cons (P := IsU [.int nx, .int ny, .int nz]) (evp_U (eu_tupOf (ev_var rfl) (sq_of (e13 _ _ hn12))) fun p H9 _ h9 => ⟨p, rfl, h9⟩) fun v H14 e14 hv => ?_
      obtain ⟨r2, rfl, hr2⟩ := hv
      exact fun H15 e15 Q' q' => q' [] H15 (Ex.refl H15) ⟨g, r2, rfl, hg.mo (e14.trans e15), st_of (e15 _ _ hr2)⟩
    · obtain ⟨g, r2, rfl, hg, hr2⟩ := hv
      exact SpV.p (sv_holds hg (.inr hr2) hcl uok ud)
end
end Kf

set_option Elab.async false
set_option linter.all false
set_option maxRecDepth 100000
set_option maxHeartbeats 4000000
namespace Kf
open PySem L2 Evl
theorem at_mk {K : PySem.W.Frag} {h : Heap} {mg : Str → Option Value} {name : Str} {st : Stmt} {ps : List Str} {f : Addr} {oc : Value} {od an : Option Addr} {osl : Array (Option Value)} {kV doc pm cdv ct : Value} (X : K.In h) (G : h.Ns mainGlobals mg)
    (b : ∀ (kV doc pm : Value) (an : Option Addr) (cdv ct : Value) (us : List Value), us.length = ps.length → bindArgs (PySem.W.fnOf name name (defArgs st) (defBody st) (defScope st) .none kV doc pm an cdv ct) ⟨us, []⟩ = pure (ps.zip us))
    (a : PySem.W.nsIn K mainGlobals name = some (some (.ref f))) (l : K.lookup f = some ⟨oc, od, .func (PySem.W.fnOf name name (defArgs st) (defBody st) (defScope st) .none kV doc pm an cdv ct), osl⟩) (c : PySem.W.codeIn K cdv name = true) (k : PySem.W.keepIn K (.ref f) = true) : At K mg name st ps := by
  have F := fun_mk (st := st) l c k
  exact ⟨f, _, F, PySem.W.mg_of X G a, F.binds b⟩
theorem with_at {K : PySem.W.Frag} {h : Heap} {mg : Str → Option Value} {R : Prop} (name : Str) (st : Stmt) (ps : List Str) {f : Addr} {oc : Value} {od an : Option Addr} {osl : Array (Option Value)} {kV doc pm cdv ct : Value} (X : K.In h) (G : h.Ns mainGlobals mg)
    (b : ∀ (kV doc pm : Value) (an : Option Addr) (cdv ct : Value) (us : List Value), us.length = ps.length → bindArgs (PySem.W.fnOf name name (defArgs st) (defBody st) (defScope st) .none kV doc pm an cdv ct) ⟨us, []⟩ = pure (ps.zip us))
    (a : PySem.W.nsIn K mainGlobals name = some (some (.ref f))) (l : K.lookup f = some ⟨oc, od, .func (PySem.W.fnOf name name (defArgs st) (defBody st) (defScope st) .none kV doc pm an cdv ct), osl⟩) (c : PySem.W.codeIn K cdv name = true) (k : PySem.W.keepIn K (.ref f) = true) (r : At K mg name st ps → R) : R :=
  r (at_mk X G b a l c k)
theorem with_none {K : PySem.W.Frag} {h : Heap} {mg : Str → Option Value} {R : Prop} (name : Str) (X : K.In h) (G : h.Ns mainGlobals mg) (a : PySem.W.nsIn K mainGlobals name = some none) (r : mg name = none → R) : R := r (PySem.W.mg_none_of X G a)
theorem with_val {K : PySem.W.Frag} {h : Heap} {mg : Str → Option Value} {R : Prop} (name : Str) {v : Value} (X : K.In h) (G : h.Ns mainGlobals mg) (a : PySem.W.nsIn K mainGlobals name = some (some v)) (r : mg name = some v → R) : R := r (PySem.W.mg_of X G a)
theorem with_ref {K : PySem.W.Frag} {h : Heap} {mg : Str → Option Value} {R : Prop} (name : Str) {D : Addr} (X : K.In h) (G : h.Ns mainGlobals mg) (a : PySem.W.nsIn K mainGlobals name = some (some (.ref D))) (r : mg name = some (.ref D) → R) : R := r (PySem.W.mg_of X G a)
theorem kit_ref {K : PySem.W.Frag} {t : Value} {D : Addr} {b : Bool} (h1 : PySem.W.isClsIn K D = true) (h2 : PySem.W.typeIn K (.ref D) = some (.type "type")) (h3 : PySem.W.subIn K t (.ref D) = some b) (h4 : (t == .ref D) = false) : PySem.W.kitOne K t (.ref D) = some b := by
  unfold PySem.W.kitOne
  rw [if_neg (by rw [h4]; decide)]
  have h1' : (PySem.W.clsIn K D).isSome = true := h1
  show (if ((PySem.W.clsIn K D).isSome && PySem.W.typeIn K (.ref D) == some (.type "type")) = true then PySem.W.subIn K t (.ref D) else none) = some b
  rw [h1', h2, if_pos (by rfl)]
  exact h3
theorem kit_type {K : PySem.W.Frag} {C : Addr} {T : String} {b : Bool} (h1 : PySem.W.kitMeta T = true) (h3 : PySem.W.subIn K (.ref C) (.type T) = some b) : PySem.W.kitOne K (.ref C) (.type T) = some b := by
  unfold PySem.W.kitOne
  rw [if_neg (by rw [show (Value.ref C == Value.type T) = false from rfl]; decide)]
  show (if PySem.W.kitMeta T = true then PySem.W.subIn K (.ref C) (.type T) else none) = some b
  rw [if_pos h1]
  exact h3
theorem exm_self {K : PySem.W.Frag} {S : Addr} (h1 : PySem.W.subIn K (.ref S) (.type "BaseException") = some true) (h2 : PySem.W.isClsIn K S = true) (h3 : PySem.W.typeIn K (.ref S) = some (.type "type")) (h4 : PySem.W.subIn K (.ref S) (.ref S) = some true) :
    PySem.W.exmOne K (.ref S) (.ref S) = some true := by
  have h2' : (PySem.W.clsIn K S).isSome = true := h2
  show (if (PySem.W.subIn K (.ref S) (.type "BaseException") == some true) = true then (if ((PySem.W.clsIn K S).isSome && PySem.W.typeIn K (.ref S) == some (.type "type")) = true then PySem.W.subIn K (.ref S) (.ref S) else none) else none) = some true
  rw [if_pos (by rw [h1] <;> rfl), if_pos (by rw [h2', h3] <;> rfl)]
  exact h4
theorem find_none {z : Str} : ∀ {l : List DictEntry} {ks : List Str}, (∃ ts : List Tok, ts.length = ks.length ∧ l.map (·.key) = List.zipWith (fun k t => Value.str k t) ks ts) → (∀ k ∈ ks, k ≠ z) → l.find? (·.key.isStr z) = none ∧ l.any (·.refKey) = false
  | [], _, _, _ => ⟨rfl, rfl⟩
  | e :: r, [], ⟨ts, hl, h⟩, _ => by simp at h
  | e :: r, k :: ks, ⟨[], hl, h⟩, _ => by simp at hl
  | e :: r, k :: ks, ⟨t :: ts, hl, h⟩, hz => by
    have h' : e.key :: r.map (·.key) = Value.str k t :: List.zipWith (fun k t => Value.str k t) ks ts := h
    injection h' with h1 h2
    obtain ⟨q1, q2⟩ := find_none (l := r) (ks := ks) ⟨ts, by simpa using hl, h2⟩ fun k hk => hz k (List.mem_cons_of_mem _ hk)
    have hk : e.key.isStr z = false := by
      rw [h1]
      show (k == z) = false
      exact beq_eq_false_iff_ne.mpr (hz k List.mem_cons_self)
    have hr : e.refKey = false := by
      obtain ⟨hh, kk, vv⟩ := e
      cases h1
      rfl
    rw [List.find?_cons, hk, List.any_cons, hr]
    exact ⟨q1, q2⟩
theorem words_none {K : PySem.W.Frag} {wd : Addr} {es : Array DictEntry} {n : Nat} (h : K.lookup wd = some ⟨.type "dict", none, .dict es n, #[]⟩) (hk : ∃ ts : List Tok, ts.length = 4 ∧ es.toList.map (·.key) = List.zipWith (fun k t => Value.str k t) ["is", "not", "and", "or"] ts) {z : Str} (hz : arity z = none) : PySem.W.nsIn K wd z = some none := by
  have ne : ∀ k ∈ (["is", "not", "and", "or"] : List Str), k ≠ z := fun k hk e => by
    subst e
    simp only [List.mem_cons, List.not_mem_nil, or_false] at hk
    rcases hk with rfl | rfl | rfl | rfl <;> exact absurd hz (by decide +kernel)
  obtain ⟨q1, q2⟩ := find_none (l := es.toList) (ks := ["is", "not", "and", "or"]) hk ne
  unfold PySem.W.nsIn
  rw [h]
  show (match es.toList.find? (·.key.isStr z) with
    | some e => some (some e.val)
    | none => if es.toList.any (·.refKey) then none else some none) = some none
  rw [q1, q2] <;> rfl
section
variable {P : Program} {w : World} {K : PySem.W.Frag} {mg : Str → Option Value} {base : Heap} {f C fI cFewError cBadClaim cBadModulus cNoRest cMovesRest cBadText wd : Addr} {fd fdI : FuncData} {t8 t12 : Tok} {es : Array DictEntry} {n : Nat}
theorem all_law (B : Bi mg) (M : Mc K w mg t8 t12 wd es n) (T : Xc K mg "TooManyRests" "modulus" C fI) (FI : Fun K "__init__" "TooManyRests.__init__" sInitT fI fdI) (mVE : mg "ValueError" = none)
    (gFewError : mg "FewError" = some (.ref cFewError)) (gBadClaim : mg "BadClaim" = some (.ref cBadClaim)) (gBadModulus : mg "BadModulus" = some (.ref cBadModulus)) (gNoRest : mg "NoRest" = some (.ref cNoRest)) (gMovesRest : mg "MovesRest" = some (.ref cMovesRest)) (gBadText : mg "BadText" = some (.ref cBadText))
    (i1 : PySem.W.kitOne K (.ref C) (.ref cFewError) = some true) (i2 : PySem.W.kitOne K (.ref C) (.type "ValueError") = some true) (i3 : PySem.W.kitOne K (.ref C) (.ref cBadClaim) = some false) (i4 : PySem.W.kitOne K (.ref C) (.ref cBadModulus) = some false)
    (i5 : PySem.W.kitOne K (.ref C) (.ref cNoRest) = some false) (i6 : PySem.W.kitOne K (.ref C) (.ref cMovesRest) = some false) (i7 : PySem.W.kitOne K (.ref C) (.ref cBadText) = some false)
    (SWhole : At K mg "whole" sWhole ["value"])
    (SDot : At K mg "dot" sDot ["one", "two"])
    (SBounded : At K mg "bounded" sBounded ["number", "low", "high"])
    (SRightIs : At K mg "right_is" sRightIs ["claim"])
    (SRightShape : At K mg "right_shape" sRightShape ["claim", "path"])
    (SCheckPart : At K mg "check_part" sCheckPart ["claim", "path"])
    (SCheckClaim : At K mg "check_claim" sCheckClaim ["claim"])
    (SCommonModulus : At K mg "common_modulus" sCommonModulus ["claim"])
    (SClaimModulus : At K mg "claim_modulus" sClaimModulus ["claim"])
    (SHoldsAt : At K mg "holds_at" sHoldsAt ["claim", "row"])
    (SHolds : At K mg "holds" sHolds ["claim", "row"])
    (SLawWhole : At K mg "_law_whole" sLawWhole ["value"])
    (SLawCell : At K mg "_law_cell" sLawCell ["script", "k"])
    (SLawDigits : At K mg "_law_digits" sLawDigits ["cell", "sizes"])
    (SLawGcd : At K mg "_law_gcd" sLawGcd ["one", "two"])
    (SLawModuli : At K mg "_law_moduli" sLawModuli ["kind"])
    (SLawGreatRow : At K mg "_law_great_row" sLawGreatRow ["cell"])
    (SLawDot : At K mg "_law_dot" sLawDot ["one", "two"])
    (SLawLeaf : At K mg "_law_leaf" sLawLeaf ["digits", "near", "menu"])
    (SLawCode : At K mg "_law_code" sLawCode ["cell", "near", "menu", "most"])
    (SLawWrapped : At K mg "_law_wrapped" sLawWrapped ["code", "depth", "goal", "cell", "near", "menu"])
    (SLawLcm : At K mg "_law_lcm" sLawLcm ["code"])
    (SLawTrue : At K mg "_law_true" sLawTrue ["code", "row"])
    (SLawBuilt : At K mg "_law_built" sLawBuilt ["code", "mode"])
    (SLawBeyond : At K mg "_law_beyond" sLawBeyond ["code", "cell"])
    (SLawSays : At K mg "_law_says" sLawSays ["told", "due"])
    (SLawModulusTold : At K mg "_law_modulus_told" sLawModulusTold ["given", "many"])
    (SLawAsked : At K mg "_law_asked" sLawAsked ["code", "deep", "rows", "mode"])
    (F : Fun K "law" "law" sLaw f fd) : FnOk P w K mg base CX0 17 f fd ["script"] (spLaw K) := by
  have bI : Binds K fdI ["self", "modulus"] [] := FI.binds fun _ _ _ _ _ _ us hl => match us, hl with | [_, _], _ => rfl
  have DWhole := df_whole (P := P) (w := w) (base := base) B SWhole
  have DDot := df_dot (P := P) (w := w) (base := base) SDot
  have DBounded := df_bounded DWhole SBounded
  have DRightIs := df_rightIs B M DBounded SRightIs
  have DRightShape := df_rightShape B M DRightIs SRightShape
  have DCheckPart := df_checkPart B DRightShape SCheckPart 8
  have DCheckClaim := df_checkClaim DCheckPart SCheckClaim
  have DCommon := df_common (P := P) (w := w) (base := base) B SCommonModulus 8
  have DClaimModulus := df_claimModulus M DCheckClaim DCommon T (fn_init FI) bI SClaimModulus
  have DHoldsAt := df_holdsAt B DDot SHoldsAt 8
  have DHolds := df_holds DCheckClaim DHoldsAt SHolds
  have DLawWhole := df_lawWhole (P := P) (w := w) (base := base) B SLawWhole
  have HLawWhole := dfH_lawWhole (P := P) (w := w) (base := base) B SLawWhole
  have DLawModulusTold := df_modTold B DClaimModulus DLawWhole HLawWhole T mVE gFewError gBadClaim gBadModulus gNoRest gMovesRest gBadText i1 i2 i3 i4 i5 i6 i7 SLawModulusTold
  have DLawCell := df_cell (P := P) (w := w) (base := base) B SLawCell
  have DLawDigits := df_digits (P := P) (w := w) (base := base) B SLawDigits
  have DLawGcd := df_lawGcd (P := P) (w := w) (base := base) B SLawGcd
  have DLawModuli := df_moduli (P := P) (w := w) (base := base) SLawModuli
  have DLawGreatRow := df_great DLawDigits B SLawGreatRow
  have DLawDot := df_lawDot (P := P) (w := w) (base := base) SLawDot
  have DLawLeaf := df_leaf DLawDot B SLawLeaf
  have DLawCode := df_code DLawDigits DLawLeaf B SLawCode
  have DLawWrapped := df_wrapped DLawDigits DLawLeaf B SLawWrapped
  have DLawLcm := df_lawLcm DLawGcd SLawLcm
  have DLawTrue := df_lawTrue DLawDot B SLawTrue
  have DLawBuilt := df_built (P := P) (w := w) (base := base) B SLawBuilt
  have DLawBeyond := df_beyond DLawDigits DLawLcm DLawGcd B SLawBeyond
  have DLawSays := df_says (P := P) (w := w) (base := base) SLawSays
  have DLawAsked := df_asked DLawBuilt DCheckClaim DLawModulusTold DLawLcm DLawTrue DLawSays DHolds B SLawAsked
  exact ok_law DLawDigits DLawCell DLawModuli DLawGreatRow DLawCode DLawWrapped DLawLcm DLawAsked DLawBeyond DLawSays DHolds DLawBuilt DLawTrue B F
end
theorem with_words {K : PySem.W.Frag} {w : World} {h : Heap} {mg : Str → Option Value} {R : Prop} {t8 t12 t1 t2 t3 t4 : Tok} {wd : Addr} {es : Array DictEntry} {n : Nat} (X : K.In h) (G : h.Ns mainGlobals mg) (aD : PySem.W.nsIn K mainGlobals "DEEPEST" = some (some (.int 8 t8))) (aM : PySem.W.nsIn K mainGlobals "MOST_MODULUS" = some (some (.int 12 t12)))
    (aW : PySem.W.nsIn K mainGlobals "WORDS" = some (some (.ref wd))) (lw : K.lookup wd = some ⟨.type "dict", none, .dict es n, #[]⟩) (k1 : PySem.W.nsIn K wd "is" = some (some (.int 4 t1))) (k2 : PySem.W.nsIn K wd "not" = some (some (.int 2 t2))) (k3 : PySem.W.nsIn K wd "and" = some (some (.int 3 t3))) (k4 : PySem.W.nsIn K wd "or" = some (some (.int 3 t4)))
    (lit : PySem.W.KeysLit w.params es.toList) (low : (wd == sysModules) = false) (hk : ∃ ts : List Tok, ts.length = 4 ∧ es.toList.map (·.key) = List.zipWith (fun k t => Value.str k t) ["is", "not", "and", "or"] ts)
    (r : ∀ t8 t12 wd es n, Mc K w mg t8 t12 wd es n → R) : R :=
  r t8 t12 wd es n ⟨PySem.W.mg_of X G aD, PySem.W.mg_of X G aM, PySem.W.mg_of X G aW, ⟨lw, lit, low⟩, ⟨_, k1⟩, ⟨_, k2⟩, ⟨_, k3⟩, ⟨_, k4⟩, fun z hz => words_none lw hk hz⟩
theorem with_exc {K : PySem.W.Frag} {h : Heap} {mg : Str → Option Value} {R : Prop} (name fld qual : Str) (st : Stmt) {C N fI : Addr} {nm q : Str} {bs bm : List Value} {sn : List Str} {sub : List Value} {ab : Bool} {col : Option Bool} {dd : Option Addr} {m0 m1 m2 m3 m5 : Option Value}
    {oc : Value} {od an : Option Addr} {osl : Array (Option Value)} {kV doc pm cdv ct : Value} (X : K.In h) (G : h.Ns mainGlobals mg)
    (aC : PySem.W.nsIn K mainGlobals name = some (some (.ref C))) (xL : K.lookup C = some (excClassObj nm q C N bs bm true sn sub ab col dd m0 m1 m2 m3 m5 "ValueError.__new__"))
    (sa : PySem.W.findIn K (.ref C) "__setattr__" = some (some (.builtin "object.__setattr__"))) (ga : PySem.W.findIn K (.ref C) "__getattribute__" = some (some (.builtin "BaseException.__getattribute__"))) (gg : PySem.W.findIn K (.ref C) "__getattr__" = some none) (nb : PySem.W.findIn K (.ref C) fld = some none)
    (a1 : PySem.W.findIn K (.ref C) "__init__" = some (some (.ref fI))) (t1 : PySem.W.typeIn K (.ref fI) = some (.type "function")) (kC : PySem.W.keepIn K (.ref C) = true) (eC : PySem.W.subIn K (.ref C) (.type "BaseException") = some true) (tC : PySem.W.typeIn K (.ref C) = some (.type "type"))
    (hC : PySem.W.hasDictIn K C = true) (iC : PySem.W.isClsIn K C = true) (sC : PySem.W.subIn K (.ref C) (.ref C) = some true) (ha : PySem.W.findIn K (.ref C) "__class__" = some (some (.builtin "object.__class__"))) (hn : PySem.W.specialIn K (.builtin "object.__class__") "__get__" = some (some (.builtin "getset_descriptor.__get__")))
    (ht : PySem.W.takesIn K (.builtin "object.__class__") = some true) (hm : PySem.W.mroIn K C (.type "object") = some true)
    (l1 : K.lookup fI = some ⟨oc, od, .func (PySem.W.fnOf "__init__" qual (defArgs st) (defBody st) (defScope st) .none kV doc pm an cdv ct), osl⟩) (c1 : PySem.W.codeIn K cdv qual = true) (k1 : PySem.W.keepIn K (.ref fI) = true) (hbm : PySem.HandSPX.refsVE bm = true)
    (r : Xc K mg name fld C fI → (∃ fdI, Fun K "__init__" qual st fI fdI) → R) : R :=
  r ⟨PySem.W.mg_of X G aC, ⟨⟨nm, q, N, bs, bm, sn, sub, ab, col, dd, m0, m1, m2, m3, m5, xL, hbm⟩, sa, eC, tC, kC⟩, a1, t1, nb, ga, gg, hC, ha, hn, ht, hm, exm_self eC iC tC sC⟩ ⟨_, fun_mk (st := st) l1 c1 k1⟩
theorem with_kit {K : PySem.W.Frag} {h : Heap} {mg : Str → Option Value} {R : Prop} {n1 n2 : Str} {C D : Addr} (b : Bool) (X : K.In h) (gC : mg n1 = some (.ref C)) (gD : mg n2 = some (.ref D)) (h1 : PySem.W.isClsIn K D = true) (h2 : PySem.W.typeIn K (.ref D) = some (.type "type")) (h3 : PySem.W.subIn K (.ref C) (.ref D) = some b) (h4 : (Value.ref C == .ref D) = false)
    (r : PySem.W.kitOne K (.ref C) (.ref D) = some b → R) : R := r (kit_ref h1 h2 h3 h4)
theorem with_kitT {K : PySem.W.Frag} {h : Heap} {mg : Str → Option Value} {R : Prop} {n1 : Str} {C : Addr} (b : Bool) (T : String) (X : K.In h) (gC : mg n1 = some (.ref C)) (h1 : PySem.W.kitMeta T = true) (h3 : PySem.W.subIn K (.ref C) (.type T) = some b)
    (r : PySem.W.kitOne K (.ref C) (.type T) = some b → R) : R := r (kit_type h1 h3)
theorem with_law {R : Prop} {K : PySem.W.Frag} {h : Heap} {mg : Str → Option Value} {f fa : Addr} {oc : Value} {od an : Option Addr} {osl : Array (Option Value)} {kV doc pm cdv ct : Value} (X : K.In h) (G : h.Ns mainGlobals mg) (hfa : mg "law" = some (.ref fa))
    (a : PySem.W.nsIn K mainGlobals "law" = some (some (.ref f))) (l : K.lookup f = some ⟨oc, od, .func (PySem.W.fnOf "law" "law" (defArgs sLaw) (defBody sLaw) (defScope sLaw) .none kV doc pm an cdv ct), osl⟩) (c : PySem.W.codeIn K cdv "law" = true) (k : PySem.W.keepIn K (.ref f) = true)
    (r : ∀ fd, Fun K "law" "law" sLaw fa fd → (∀ (s : Shared) (v : Value), BindsTo s fd ⟨[v], []⟩ [("script", v)]) → R) : R := by
  have e := hfa.symm.trans (PySem.W.mg_of X G a)
  cases e
  exact r _ (fun_mk (st := sLaw) l c k) fun s v => .of_eq rfl
theorem walk {l : PySem.W.OpenLaw} {q : Program} {loose : List Str} {XP : (Str → Option Value) → Heap → Prop} {YP : World → Heap → Prop} {d : DefRec} {K : Params → PySem.W.Frag} (hn : l.most = some 63) (hdf : d.params.defaults = [])
    (hY : ∀ (w : World) (h : Heap), YP w h → (K w.params).In h)
    (F : ∀ (w : World) (mg : Str → Option Value) (fa : Addr) (h : Heap), (K w.params).In h → h.Ns mainGlobals mg → mg d.name = some (.ref fa) →
      ∃ fd : FuncData, (∀ (s : Shared) (u : Value), BindsTo s fd ⟨[u], []⟩ [("script", u)]) ∧ ∀ base : Heap, (K w.params).In base → base.Ns mainGlobals mg → FnOk l.prog w (K w.params) mg base CX0 17 fa fd ["script"] (spLaw (K w.params))) :
    PySem.W.WalkO q loose XP YP l.row.toRowW d [] (fun f vs => PySem.call f vs) :=
  L2.walk_of (n := 63) (k := 17) (x := "script") (CX := fun _ => CX0) (sp := fun w => spLaw (K w.params)) hn (by decide) hdf ⟨rfl, by decide, by decide⟩ hY F (fun _ _ a ns hl _ hS => ⟨a, ns, rfl, hS, hl, fun _ => rfl⟩) fun _ _ _ _ _ z => z
end Kf

open PySem PySem.W PyProof.Rows
set_option Elab.async false
set_option maxRecDepth 100000 in
set_option maxHeartbeats 0 in
theorem PySem.Challenge.cw_fewfounders_k55_claims_hold_holds : PySem.Challenge.rw_fewfounders_k55_claims_hold.Holds := by
  w_on; o_law; k_head; (case hw => w_witness2)
  k_fill
  refine Kf.walk (l := PySem.Challenge.rw_fewfounders_k55_claims_hold) rfl rfl (fun w h Y => PySem.W.kIn_of Y) ?F
  case F =>
    intro w mg fa h KX G hmg
    refine' Kf.with_law KX G hmg ?a ?l ?c ?k ?_
    (case a => k_is); (case l => k_is); (case c => k_is); (case k => k_is)
    intro fd FL hb
    refine' Kf.with_at "whole" Kf.sWhole ["value"] KX G (fun _ _ _ _ _ _ us hl => match us, hl with | [_], _ => rfl) ?a0 ?l0 ?c0 ?k0 ?_
    (case a0 => k_is); (case l0 => k_is); (case c0 => k_is); (case k0 => k_is)
    intro SWhole
    refine' Kf.with_at "dot" Kf.sDot ["one", "two"] KX G (fun _ _ _ _ _ _ us hl => match us, hl with | [_, _], _ => rfl) ?a1 ?l1 ?c1 ?k1 ?_
    (case a1 => k_is); (case l1 => k_is); (case c1 => k_is); (case k1 => k_is)
    intro SDot
    refine' Kf.with_at "bounded" Kf.sBounded ["number", "low", "high"] KX G (fun _ _ _ _ _ _ us hl => match us, hl with | [_, _, _], _ => rfl) ?a2 ?l2 ?c2 ?k2 ?_
    (case a2 => k_is); (case l2 => k_is); (case c2 => k_is); (case k2 => k_is)
    intro SBounded
    refine' Kf.with_at "right_is" Kf.sRightIs ["claim"] KX G (fun _ _ _ _ _ _ us hl => match us, hl with | [_], _ => rfl) ?a3 ?l3 ?c3 ?k3 ?_
    (case a3 => k_is); (case l3 => k_is); (case c3 => k_is); (case k3 => k_is)
    intro SRightIs
    refine' Kf.with_at "right_shape" Kf.sRightShape ["claim", "path"] KX G (fun _ _ _ _ _ _ us hl => match us, hl with | [_, _], _ => rfl) ?a4 ?l4 ?c4 ?k4 ?_
    (case a4 => k_is); (case l4 => k_is); (case c4 => k_is); (case k4 => k_is)
    intro SRightShape
    refine' Kf.with_at "check_part" Kf.sCheckPart ["claim", "path"] KX G (fun _ _ _ _ _ _ us hl => match us, hl with | [_, _], _ => rfl) ?a5 ?l5 ?c5 ?k5 ?_
    (case a5 => k_is); (case l5 => k_is); (case c5 => k_is); (case k5 => k_is)
    intro SCheckPart
    refine' Kf.with_at "check_claim" Kf.sCheckClaim ["claim"] KX G (fun _ _ _ _ _ _ us hl => match us, hl with | [_], _ => rfl) ?a6 ?l6 ?c6 ?k6 ?_
    (case a6 => k_is); (case l6 => k_is); (case c6 => k_is); (case k6 => k_is)
    intro SCheckClaim
    refine' Kf.with_at "common_modulus" Kf.sCommonModulus ["claim"] KX G (fun _ _ _ _ _ _ us hl => match us, hl with | [_], _ => rfl) ?a7 ?l7 ?c7 ?k7 ?_
    (case a7 => k_is); (case l7 => k_is); (case c7 => k_is); (case k7 => k_is)
    intro SCommonModulus
    refine' Kf.with_at "claim_modulus" Kf.sClaimModulus ["claim"] KX G (fun _ _ _ _ _ _ us hl => match us, hl with | [_], _ => rfl) ?a8 ?l8 ?c8 ?k8 ?_
    (case a8 => k_is); (case l8 => k_is); (case c8 => k_is); (case k8 => k_is)
    intro SClaimModulus
    refine' Kf.with_at "holds_at" Kf.sHoldsAt ["claim", "row"] KX G (fun _ _ _ _ _ _ us hl => match us, hl with | [_, _], _ => rfl) ?a9 ?l9 ?c9 ?k9 ?_
    (case a9 => k_is); (case l9 => k_is); (case c9 => k_is); (case k9 => k_is)
    intro SHoldsAt
    refine' Kf.with_at "holds" Kf.sHolds ["claim", "row"] KX G (fun _ _ _ _ _ _ us hl => match us, hl with | [_, _], _ => rfl) ?a10 ?l10 ?c10 ?k10 ?_
    (case a10 => k_is); (case l10 => k_is); (case c10 => k_is); (case k10 => k_is)
    intro SHolds
    refine' Kf.with_at "_law_whole" Kf.sLawWhole ["value"] KX G (fun _ _ _ _ _ _ us hl => match us, hl with | [_], _ => rfl) ?a11 ?l11 ?c11 ?k11 ?_
    (case a11 => k_is); (case l11 => k_is); (case c11 => k_is); (case k11 => k_is)
    intro SLawWhole
    refine' Kf.with_at "_law_cell" Kf.sLawCell ["script", "k"] KX G (fun _ _ _ _ _ _ us hl => match us, hl with | [_, _], _ => rfl) ?a12 ?l12 ?c12 ?k12 ?_
    (case a12 => k_is); (case l12 => k_is); (case c12 => k_is); (case k12 => k_is)
    intro SLawCell
    refine' Kf.with_at "_law_digits" Kf.sLawDigits ["cell", "sizes"] KX G (fun _ _ _ _ _ _ us hl => match us, hl with | [_, _], _ => rfl) ?a13 ?l13 ?c13 ?k13 ?_
    (case a13 => k_is); (case l13 => k_is); (case c13 => k_is); (case k13 => k_is)
    intro SLawDigits
    refine' Kf.with_at "_law_gcd" Kf.sLawGcd ["one", "two"] KX G (fun _ _ _ _ _ _ us hl => match us, hl with | [_, _], _ => rfl) ?a14 ?l14 ?c14 ?k14 ?_
    (case a14 => k_is); (case l14 => k_is); (case c14 => k_is); (case k14 => k_is)
    intro SLawGcd
    refine' Kf.with_at "_law_moduli" Kf.sLawModuli ["kind"] KX G (fun _ _ _ _ _ _ us hl => match us, hl with | [_], _ => rfl) ?a15 ?l15 ?c15 ?k15 ?_
    (case a15 => k_is); (case l15 => k_is); (case c15 => k_is); (case k15 => k_is)
    intro SLawModuli
    refine' Kf.with_at "_law_great_row" Kf.sLawGreatRow ["cell"] KX G (fun _ _ _ _ _ _ us hl => match us, hl with | [_], _ => rfl) ?a16 ?l16 ?c16 ?k16 ?_
    (case a16 => k_is); (case l16 => k_is); (case c16 => k_is); (case k16 => k_is)
    intro SLawGreatRow
    refine' Kf.with_at "_law_dot" Kf.sLawDot ["one", "two"] KX G (fun _ _ _ _ _ _ us hl => match us, hl with | [_, _], _ => rfl) ?a17 ?l17 ?c17 ?k17 ?_
    (case a17 => k_is); (case l17 => k_is); (case c17 => k_is); (case k17 => k_is)
    intro SLawDot
    refine' Kf.with_at "_law_leaf" Kf.sLawLeaf ["digits", "near", "menu"] KX G (fun _ _ _ _ _ _ us hl => match us, hl with | [_, _, _], _ => rfl) ?a18 ?l18 ?c18 ?k18 ?_
    (case a18 => k_is); (case l18 => k_is); (case c18 => k_is); (case k18 => k_is)
    intro SLawLeaf
    refine' Kf.with_at "_law_code" Kf.sLawCode ["cell", "near", "menu", "most"] KX G (fun _ _ _ _ _ _ us hl => match us, hl with | [_, _, _, _], _ => rfl) ?a19 ?l19 ?c19 ?k19 ?_
    (case a19 => k_is); (case l19 => k_is); (case c19 => k_is); (case k19 => k_is)
    intro SLawCode
    refine' Kf.with_at "_law_wrapped" Kf.sLawWrapped ["code", "depth", "goal", "cell", "near", "menu"] KX G (fun _ _ _ _ _ _ us hl => match us, hl with | [_, _, _, _, _, _], _ => rfl) ?a20 ?l20 ?c20 ?k20 ?_
    (case a20 => k_is); (case l20 => k_is); (case c20 => k_is); (case k20 => k_is)
    intro SLawWrapped
    refine' Kf.with_at "_law_lcm" Kf.sLawLcm ["code"] KX G (fun _ _ _ _ _ _ us hl => match us, hl with | [_], _ => rfl) ?a21 ?l21 ?c21 ?k21 ?_
    (case a21 => k_is); (case l21 => k_is); (case c21 => k_is); (case k21 => k_is)
    intro SLawLcm
    refine' Kf.with_at "_law_true" Kf.sLawTrue ["code", "row"] KX G (fun _ _ _ _ _ _ us hl => match us, hl with | [_, _], _ => rfl) ?a22 ?l22 ?c22 ?k22 ?_
    (case a22 => k_is); (case l22 => k_is); (case c22 => k_is); (case k22 => k_is)
    intro SLawTrue
    refine' Kf.with_at "_law_built" Kf.sLawBuilt ["code", "mode"] KX G (fun _ _ _ _ _ _ us hl => match us, hl with | [_, _], _ => rfl) ?a23 ?l23 ?c23 ?k23 ?_
    (case a23 => k_is); (case l23 => k_is); (case c23 => k_is); (case k23 => k_is)
    intro SLawBuilt
    refine' Kf.with_at "_law_beyond" Kf.sLawBeyond ["code", "cell"] KX G (fun _ _ _ _ _ _ us hl => match us, hl with | [_, _], _ => rfl) ?a24 ?l24 ?c24 ?k24 ?_
    (case a24 => k_is); (case l24 => k_is); (case c24 => k_is); (case k24 => k_is)
    intro SLawBeyond
    refine' Kf.with_at "_law_says" Kf.sLawSays ["told", "due"] KX G (fun _ _ _ _ _ _ us hl => match us, hl with | [_, _], _ => rfl) ?a25 ?l25 ?c25 ?k25 ?_
    (case a25 => k_is); (case l25 => k_is); (case c25 => k_is); (case k25 => k_is)
    intro SLawSays
    refine' Kf.with_at "_law_modulus_told" Kf.sLawModulusTold ["given", "many"] KX G (fun _ _ _ _ _ _ us hl => match us, hl with | [_, _], _ => rfl) ?a26 ?l26 ?c26 ?k26 ?_
    (case a26 => k_is); (case l26 => k_is); (case c26 => k_is); (case k26 => k_is)
    intro SLawModulusTold
    refine' Kf.with_at "_law_asked" Kf.sLawAsked ["code", "deep", "rows", "mode"] KX G (fun _ _ _ _ _ _ us hl => match us, hl with | [_, _, _, _], _ => rfl) ?a27 ?l27 ?c27 ?k27 ?_
    (case a27 => k_is); (case l27 => k_is); (case c27 => k_is); (case k27 => k_is)
    intro SLawAsked
    refine' Kf.with_none "len" KX G ?n0 ?_
    (case n0 => k_is)
    intro nLen
    refine' Kf.with_none "int" KX G ?n1 ?_
    (case n1 => k_is)
    intro nInt
    refine' Kf.with_none "bool" KX G ?n2 ?_
    (case n2 => k_is)
    intro nBool
    refine' Kf.with_none "str" KX G ?n3 ?_
    (case n3 => k_is)
    intro nStr
    refine' Kf.with_none "list" KX G ?n4 ?_
    (case n4 => k_is)
    intro nList
    refine' Kf.with_none "tuple" KX G ?n5 ?_
    (case n5 => k_is)
    intro nTuple
    refine' Kf.with_none "isinstance" KX G ?n6 ?_
    (case n6 => k_is)
    intro nIsinstance
    refine' Kf.with_none "range" KX G ?n7 ?_
    (case n7 => k_is)
    intro nRange
    refine' Kf.with_none "abs" KX G ?n8 ?_
    (case n8 => k_is)
    intro nAbs
    refine' Kf.with_none "max" KX G ?n9 ?_
    (case n9 => k_is)
    intro nMax
    refine' Kf.with_none "ValueError" KX G ?n10 ?_
    (case n10 => k_is)
    intro nValueerror
    refine' Kf.with_val "lcm" (v := .builtin "math.lcm") KX G ?v0 ?_
    (case v0 => k_is)
    intro glcm
    refine' Kf.with_ref "FewError" KX G ?v1 ?_
    (case v1 => k_is)
    intro gFewError
    refine' Kf.with_ref "BadClaim" KX G ?v2 ?_
    (case v2 => k_is)
    intro gBadClaim
    refine' Kf.with_ref "BadModulus" KX G ?v3 ?_
    (case v3 => k_is)
    intro gBadModulus
    refine' Kf.with_ref "NoRest" KX G ?v4 ?_
    (case v4 => k_is)
    intro gNoRest
    refine' Kf.with_ref "MovesRest" KX G ?v5 ?_
    (case v5 => k_is)
    intro gMovesRest
    refine' Kf.with_ref "BadText" KX G ?v6 ?_
    (case v6 => k_is)
    intro gBadText
    refine' Kf.with_words (w := w) KX G ?w1 ?w2 ?w3 ?w4 ?w5 ?w6 ?w7 ?w8 ?w9 ?w10 ?w11 ?_
    (case w1 => k_is); (case w2 => k_is); (case w3 => k_is); (case w4 => k_is); (case w5 => k_is); (case w6 => k_is); (case w7 => k_is); (case w8 => k_is)
    (case w9 => exact ⟨⟨_, _, rfl, rfl⟩, ⟨_, _, rfl, rfl⟩, ⟨_, _, rfl, rfl⟩, ⟨_, _, rfl, rfl⟩, trivial⟩); (case w10 => rfl); (case w11 => exact ⟨[_, _, _, _], rfl, rfl⟩)
    intro t8 t12 wd es nd M
    refine' Kf.with_exc "TooManyRests" "modulus" "TooManyRests.__init__" Kf.sInitT KX G ?x1 ?x2 ?x3 ?x4 ?x5 ?x6 ?x7 ?x8 ?x9 ?x10 ?x11 ?x12 ?x13 ?x14 ?x15 ?x16 ?x17 ?x18 ?x19 ?x20 ?x21 ?x22 ?_
    (case x1 => k_is); (case x2 => k_is); (case x3 => k_is); (case x4 => k_is); (case x5 => k_is); (case x6 => k_is); (case x7 => k_is); (case x8 => k_is); (case x9 => k_is); (case x10 => k_is); (case x11 => k_is)
    (case x12 => k_is); (case x13 => k_is); (case x14 => first | rfl | k_is); (case x15 => k_is); (case x16 => k_is); (case x17 => k_is); (case x18 => k_is); (case x19 => k_is); (case x20 => k_is); (case x21 => k_is); (case x22 => decide +kernel)
    intro T TI
    obtain ⟨fdI, FI⟩ := TI
    refine' Kf.with_kit true KX T.gC gFewError ?p1 ?q1 ?r1 ?s1 ?_
    (case p1 => k_is); (case q1 => k_is); (case r1 => k_is); (case s1 => rfl)
    intro i1
    refine' Kf.with_kitT true "ValueError" KX T.gC ?p2 ?r2 ?_
    (case p2 => rfl); (case r2 => k_is)
    intro i2
    refine' Kf.with_kit false KX T.gC gBadClaim ?p3 ?q3 ?r3 ?s3 ?_
    (case p3 => k_is); (case q3 => k_is); (case r3 => k_is); (case s3 => rfl)
    intro i3
    refine' Kf.with_kit false KX T.gC gBadModulus ?p4 ?q4 ?r4 ?s4 ?_
    (case p4 => k_is); (case q4 => k_is); (case r4 => k_is); (case s4 => rfl)
    intro i4
    refine' Kf.with_kit false KX T.gC gNoRest ?p5 ?q5 ?r5 ?s5 ?_
    (case p5 => k_is); (case q5 => k_is); (case r5 => k_is); (case s5 => rfl)
    intro i5
    refine' Kf.with_kit false KX T.gC gMovesRest ?p6 ?q6 ?r6 ?s6 ?_
    (case p6 => k_is); (case q6 => k_is); (case r6 => k_is); (case s6 => rfl)
    intro i6
    refine' Kf.with_kit false KX T.gC gBadText ?p7 ?q7 ?r7 ?s7 ?_
    (case p7 => k_is); (case q7 => k_is); (case r7 => k_is); (case s7 => rfl)
    intro i7
    have B : Kf.Bi mg := ⟨nLen, nInt, nBool, nStr, nList, nTuple, nIsinstance, nRange, nAbs, nMax, glcm⟩
    exact ⟨fd, hb, fun base _ _ => Kf.all_law B M T FI nValueerror gFewError gBadClaim gBadModulus gNoRest gMovesRest gBadText i1 i2 i3 i4 i5 i6 i7 SWhole SDot SBounded SRightIs SRightShape SCheckPart SCheckClaim SCommonModulus SClaimModulus SHoldsAt SHolds SLawWhole SLawCell SLawDigits SLawGcd SLawModuli SLawGreatRow SLawDot SLawLeaf SLawCode SLawWrapped SLawLcm SLawTrue SLawBuilt SLawBeyond SLawSays SLawModulusTold SLawAsked FL⟩

