import PyProof.Rows.All
import Wide.All
import OpenK.AllK
import Wide.FinOn
import PyProof.EqAt
import PyProof.EqKinds
import PyProof.TupleCall
import PyProof.NeData
import KE.KMathG
import HandS.ForMost
import HandS.Exc
import HandS.ExcOwn
import HandS.ExcInit
import HandS.ExcField
import HandS.ExcIs
import HandS.TryOnly
import HandS.TryMany
import HandS.WordsExc
import HandS.Style
import HandS.IsInst
import HandS.More
import HandS.Gcd
import HandS.Evl
import HandS.HotCalls
import HandS.TupAny
import PySem.Challenge.RW_fewfounders_k54_claims_checked
import KE.KExcIs
import HandS.ExcCtx
import HandS.ExcInitHot
import KE.KDictLaw
import KE.KEqDict
set_option Elab.async false
set_option linter.all false
set_option maxRecDepth 100000
set_option maxHeartbeats 4000000
namespace Kf
open PySem L2 Evl

/-! ### a def that stands in the module under its name -/
structure Df (P : Program) (w : World) (K : PySem.W.Frag) (mg : Str → Option Value) (base : Heap) (CX : CXT) (name : Str) (k : Nat) (ps : List Str) (sp : Sp) : Prop where
  ex : ∃ (f : Addr) (fd : FuncData), mg name = some (.ref f) ∧ PySem.W.keepIn K (.ref f) = true ∧ Binds K fd ps [] ∧ FnOk P w K mg base CX k f fd ps sp
theorem Df.mono {P : Program} {w : World} {K : PySem.W.Frag} {mg : Str → Option Value} {base : Heap} {CX : CXT} {name : Str} {j k : Nat} {ps : List Str} {sp : Sp} (D : Df P w K mg base CX name j ps sp) (h : j ≤ k) : Df P w K mg base CX name k ps sp := by
  obtain ⟨f, fd, a, b, c, d⟩ := D.ex
  exact ⟨f, fd, a, b, c, d.mono h⟩
theorem Df.imp {P : Program} {w : World} {K : PySem.W.Frag} {mg : Str → Option Value} {base : Heap} {CX : CXT} {name : Str} {k : Nat} {ps : List Str} {sp sp' : Sp} (D : Df P w K mg base CX name k ps sp) (h : ∀ vs H Q E, sp' vs H Q E → sp vs H Q E) : Df P w K mg base CX name k ps sp' := by
  obtain ⟨f, fd, a, b, c, d⟩ := D.ex
  exact ⟨f, fd, a, b, c, d.imp h⟩
theorem pe_df {X : Cx} {CX : CXT} {name : Str} {j k : Nat} {ps : List Str} {sp : Sp} {E : XK} {e : Expr} {es : List Expr} {t : TA} {p pos : Pos}
    (D : Df X.prog X.w X.K X.mg X.base CX name j ps sp) (hr : Room k X.A) (hx : Passes CX X E) (ha : PA X (e :: es) t) (hj : j ≤ k := by omega) (hg : Gl X name := by rfl) (hdb : (name == ("__debug__" : Str)) = false := by decide)
    (he : starEach (e :: es) X.env = (false, eval e X.env) :: starEach es X.env := by rfl) (hpl : (backTo pos (starEach es X.env)).any (·.1) = false := by rfl) :
    PE X (.Call (.Name name p) (e :: es) [] pos) (tCall sp [] E t) := by
  obtain ⟨f, fd, a, b, c, d⟩ := D.ex
  exact pe_call d (hr.mono hj) hg a b c .nil hx ha hdb he hpl

/-! ### the built-ins' names are free -/
structure Bi (mg : Str → Option Value) : Prop where
  len : mg "len" = none
  int : mg "int" = none
  bool : mg "bool" = none
  str : mg "str" = none
  list : mg "list" = none
  tuple : mg "tuple" = none
  isinstance : mg "isinstance" = none
  range : mg "range" = none
  abs : mg "abs" = none
  max : mg "max" = none
  lcm : mg "lcm" = some (.builtin "math.lcm")

section
variable {X : Cx} {e f : Expr} {te tf : TE} {ta : TA} {es : List Expr} {p pos : Pos}
/-! ### list or tuple -/
def Sq (K : PySem.W.Frag) (H : Hp) (a : Addr) (xs : List V) : Prop := SqL K H a xs ∨ SqT K H a xs
theorem Sq.ex {K : PySem.W.Frag} {H H' : Hp} {a : Addr} {xs : List V} (x : Ex H H') (h : Sq K H a xs) : Sq K H' a xs := by
  rcases h with h | h
  · exact .inl (ex_l x h)
  · exact .inr (ex_t x h)
def rIxQ (K : PySem.W.Frag) : R2 := fun x y H Q => ∃ p xs i v, x = .ref p ∧ y = .int i ∧ Sq K H p xs ∧ atI xs i = some v ∧ Q v H
theorem ix_lt : IxR X (rIxQ X.K) := by
  intro a b pins s σ H x y v u Q I rx ry h hs
  obtain ⟨p, xs, i, z, e1, e2, hq, ha, q⟩ := h
  rcases hq with hq | hq
  · exact ix_list a b pins s σ H x y v u Q I rx ry ⟨p, xs, i, z, e1, e2, hq, ha, q⟩ hs
  · exact ix_tup a b pins s σ H x y v u Q I rx ry ⟨p, xs, i, z, e1, e2, hq, ha, q⟩ hs
/-- for .. in e, e a list or a tuple -/
def iSeq (K : PySem.W.Frag) (tl : TE) : TI := fun σ H R => tl σ H fun x H1 => ∃ a xs, x = .ref a ∧ ((SqL K H1 a xs ∧ R (Itl K a) H1) ∨ (SqT K H1 a xs ∧ R (Itt K a) H1))
end
end Kf

set_option Elab.async false
set_option linter.all false
set_option maxRecDepth 100000
set_option maxHeartbeats 4000000
namespace Kf
open PySem L2 Evl

/-! ### data of any kind, as the values stand for it -/
inductive Py where
  | non | bl (b : Bool) | int (i : Int) | str (x : Str) | lst (ds : List Py) | tup (ds : List Py) | dic (a : Addr)
def Py.seq : Py → Option (List Py)
  | .lst ds => some ds
  | .tup ds => some ds
  | _ => none
mutual
def Py.dep : Py → Nat
  | .lst ds => Py.deps ds + 1
  | .tup ds => Py.deps ds + 1
  | _ => 0
def Py.deps : List Py → Nat
  | [] => 0
  | d :: ds => max d.dep (Py.deps ds)
end
mutual
inductive Rp (K : PySem.W.Frag) (H : Hp) : V → Py → Prop
  | non : Rp K H .non .non
  | bl (b : Bool) : Rp K H (.bl b) (.bl b)
  | int (i : Int) : Rp K H (.int i) (.int i)
  | str (x : Str) : Rp K H (.str x) (.str x)
  | lst {a : Addr} {xs : List V} {ds : List Py} : SqL K H a xs → RpAll K H xs ds → Rp K H (.ref a) (.lst ds)
  | tup {a : Addr} {xs : List V} {ds : List Py} : SqT K H a xs → RpAll K H xs ds → Rp K H (.ref a) (.tup ds)
  | dic {a : Addr} {kvs : List (L2.Key × V)} : H a = some (.dK kvs) → Rp K H (.ref a) (.dic a)
inductive RpAll (K : PySem.W.Frag) (H : Hp) : List V → List Py → Prop
  | nil : RpAll K H [] []
  | cons {v : V} {vs : List V} {d : Py} {ds : List Py} : Rp K H v d → RpAll K H vs ds → RpAll K H (v :: vs) (d :: ds)
end
section
variable {K : PySem.W.Frag} {H H' : Hp}
mutual
theorem Rp.ex (x : Ex H H') : ∀ (d : Py) (v : V), Rp K H v d → Rp K H' v d
  | .non, _, h => by cases h; exact .non
  | .bl _, _, h => by cases h; exact .bl _
  | .int _, _, h => by cases h; exact .int _
  | .str _, _, h => by cases h; exact .str _
  | .lst ds, _, h => by
    cases h with
    | lst hs ha => exact .lst (ex_l x hs) (RpAll.ex x ds _ ha)
  | .tup ds, _, h => by
    cases h with
    | tup hs ha => exact .tup (ex_t x hs) (RpAll.ex x ds _ ha)
  | .dic _, _, h => by
    cases h with
    | dic hd => exact .dic (x _ _ hd)
theorem RpAll.ex (x : Ex H H') : ∀ (ds : List Py) (vs : List V), RpAll K H vs ds → RpAll K H' vs ds
  | [], _, h => by cases h; exact .nil
  | d :: ds, _, h => by
    cases h with
    | cons h1 h2 => exact .cons (Rp.ex x d _ h1) (RpAll.ex x ds _ h2)
end
theorem Rp.mo {d : Py} {v : V} (h : Rp K H v d) (x : Ex H H') : Rp K H' v d := Rp.ex x d v h
theorem RpAll.mo {d : List Py} {v : List V} (h : RpAll K H v d) (x : Ex H H') : RpAll K H' v d := RpAll.ex x d v h
theorem RpAll.length : ∀ {xs : List V} {ds : List Py}, RpAll K H xs ds → xs.length = ds.length
  | _, [], h => by cases h; rfl
  | _, _ :: _, h => by
    cases h with
    | cons _ t => exact congrArg (· + 1) t.length
theorem RpAll.get : ∀ {xs : List V} {ds : List Py} {i : Nat} {d : Py}, RpAll K H xs ds → ds[i]? = some d → ∃ v, xs[i]? = some v ∧ Rp K H v d
  | _, [], _, _, h, e => by simp at e
  | _, d0 :: ds, 0, d, h, e => by
    cases h with
    | cons h1 _ =>
      have e2 : d0 = d := by simpa using e
      subst e2
      exact ⟨_, rfl, h1⟩
  | _, d0 :: ds, i + 1, d, h, e => by
    cases h with
    | cons _ t =>
      obtain ⟨v, q1, q2⟩ := t.get (i := i) (d := d) (by simpa using e)
      exact ⟨v, by simpa using q1, q2⟩
theorem RpAll.getV : ∀ {xs : List V} {ds : List Py} {i : Nat} {v : V}, RpAll K H xs ds → xs[i]? = some v → ∃ d, ds[i]? = some d ∧ Rp K H v d
  | _, [], _, _, h, e => by cases h; simp at e
  | _, d0 :: ds, 0, v, h, e => by
    cases h with
    | cons h1 _ =>
      have e2 := Option.some.inj e
      subst e2
      exact ⟨_, rfl, h1⟩
  | _, d0 :: ds, i + 1, v, h, e => by
    cases h with
    | cons _ t =>
      obtain ⟨d, q1, q2⟩ := t.getV (i := i) (v := v) (by simpa using e)
      exact ⟨d, by simpa using q1, q2⟩
theorem RpAll.app : ∀ {xs ys : List V} {ds es : List Py}, RpAll K H xs ds → RpAll K H ys es → RpAll K H (xs ++ ys) (ds ++ es)
  | _, _, [], _, h, g => by cases h; exact g
  | _, _, _ :: _, _, h, g => by
    cases h with
    | cons h1 t => exact .cons h1 (t.app g)
theorem RpAll.ints : ∀ (ns : List Int), RpAll K H (ns.map V.int) (ns.map Py.int)
  | [] => .nil
  | n :: r => .cons (.int n) (RpAll.ints r)
/-- what is a list or a tuple -/
theorem Rp.sq {v : V} {d : Py} {ds : List Py} (h : Rp K H v d) (e : d.seq = some ds) : ∃ a xs, v = .ref a ∧ Sq K H a xs ∧ RpAll K H xs ds := by
  cases h with
  | lst hs ha => cases e; exact ⟨_, _, rfl, .inl hs, ha⟩
  | tup hs ha => cases e; exact ⟨_, _, rfl, .inr hs, ha⟩
  | _ => exact nomatch e
theorem Rp.of_list {a : Addr} {xs : List V} {ds : List Py} (h : H a = some (.lst xs)) (ha : RpAll K H xs ds) : Rp K H (.ref a) (.lst ds) := .lst (sq_of h) ha
theorem Rp.of_tup {a : Addr} {xs : List V} {ds : List Py} (h : H a = some (.tup xs)) (ha : RpAll K H xs ds) : Rp K H (.ref a) (.tup ds) := .tup (st_of h) ha
end

/-! ### two values that stand for the same data are equal -/
theorem units_in {A : Around} {n m : Nat} (h : A.units + m < cLine) (hn : n + 1 ≤ m) : A.in1.units + n < cLine := by
  show A.units + 1 + n < cLine
  omega
section
variable {X : Cx} {pins : List (Addr × Obj)} {σ : L2.St} {H : Hp} {s : Shared}
theorem all_true (n : Nat) : ((List.range n).all fun _ => true) = true := List.all_eq_true.mpr fun _ _ => rfl
mutual
theorem Rp.eqAt (I : Inv X pins σ H s) : ∀ (d : Py) (x y : V) (v u : Value) (A : Around), Rp X.K H x d → Rp X.K H y d → RelV x v → RelV y u → A.units + d.dep < cLine → SeqAt.EqAt A s v u true
  | .non, _, _, _, _, _, hx, hy, rx, ry, _ => by
    cases hx; cases hy
    exact eqAt_same rx ry rfl
  | .bl _, _, _, _, _, _, hx, hy, rx, ry, _ => by
    cases hx; cases hy
    exact eqAt_same rx ry rfl
  | .int _, _, _, _, _, _, hx, hy, rx, ry, _ => by
    cases hx; cases hy
    exact eqAt_same rx ry rfl
  | .str _, _, _, _, _, _, hx, hy, rx, ry, _ => by
    cases hx; cases hy
    exact eqAt_same rx ry rfl
  | .dic a, _, _, v, u, _, hx, hy, rx, ry, _ => by
    cases hx; cases hy
    cases (show v = Value.ref a from rx)
    cases (show u = Value.ref a from ry)
    exact SeqAt.EqAt.same _
  | .lst ds, x, y, v, u, A, hx, hy, rx, ry, hu => by
    cases hx with
    | @lst a xs _ hs ha =>
      cases hy with
      | @lst b ys _ ht hb =>
        cases (show v = Value.ref a from rx)
        cases (show u = Value.ref b from ry)
        by_cases e : a = b
        · subst e; exact SeqAt.EqAt.same _
        obtain ⟨us, r1, p1, _⟩ := I.list hs
        obtain ⟨ws, r2, p2, _⟩ := I.list ht
        have hsz : us.toArray.size = ws.toArray.size := by rw [List.size_toArray, List.size_toArray, ← r1.length, ← r2.length, ha.length, hb.length]
        have k := SeqAt.RcAt.lists (A := A) (e := fun _ => true) p1.isList p2.isList hsz (by omega) fun j h1 h2 => by
          have z := RpAll.eqAt I ds xs ys us ws A.in1 ha hb r1 r2 (units_in hu (Nat.le_refl _)) j (by simpa using h1) (by simpa using h2)
          simpa using z
        rw [all_true] at k
        exact SeqAt.EqAt.of_refs e k
  | .tup ds, x, y, v, u, A, hx, hy, rx, ry, hu => by
    cases hx with
    | @tup a xs _ hs ha =>
      cases hy with
      | @tup b ys _ ht hb =>
        cases (show v = Value.ref a from rx)
        cases (show u = Value.ref b from ry)
        by_cases e : a = b
        · subst e; exact SeqAt.EqAt.same _
        obtain ⟨us, r1, p1, _⟩ := I.tuple hs
        obtain ⟨ws, r2, p2, _⟩ := I.tuple ht
        have hsz : us.toArray.size = ws.toArray.size := by rw [List.size_toArray, List.size_toArray, ← r1.length, ← r2.length, ha.length, hb.length]
        have k := SeqAt.RcAt.tuples (A := A) (e := fun _ => true) (show s.heap.IsTuple a us.toArray from p1) (show s.heap.IsTuple b ws.toArray from p2) (by omega) fun j h1 h2 => by
          have z := RpAll.eqAt I ds xs ys us ws A.in1 ha hb r1 r2 (units_in hu (Nat.le_refl _)) j (by simpa using h1) (by simpa using h2)
          simpa using z
        rw [all_true, hsz, beq_self_eq_true] at k
        exact SeqAt.EqAt.of_refs e k
theorem RpAll.eqAt (I : Inv X pins σ H s) : ∀ (ds : List Py) (xs ys : List V) (us ws : List Value) (A : Around), RpAll X.K H xs ds → RpAll X.K H ys ds → Vals xs us → Vals ys ws → A.units + Py.deps ds < cLine →
    ∀ j (h1 : j < us.length) (h2 : j < ws.length), SeqAt.EqAt A s us[j] ws[j] true
  | [], _, _, us, _, _, ha, _, r1, _, _, j, h1, _ => by
    cases ha
    cases r1
    exact absurd h1 (Nat.not_lt_zero j)
  | d :: ds, _, _, us, ws, A, ha, hb, r1, r2, hu, j, h1, h2 => by
    cases ha with
    | cons a1 a2 =>
      cases hb with
      | cons b1 b2 =>
        cases r1 with
        | cons p1 p2 =>
          cases r2 with
          | cons q1 q2 =>
            have m1 : A.units + d.dep < cLine := by
              have := Nat.le_max_left d.dep (Py.deps ds)
              have hu' : A.units + max d.dep (Py.deps ds) < cLine := hu
              omega
            have m2 : A.units + Py.deps ds < cLine := by
              have := Nat.le_max_right d.dep (Py.deps ds)
              have hu' : A.units + max d.dep (Py.deps ds) < cLine := hu
              omega
            cases j with
            | zero => exact Rp.eqAt I d _ _ _ _ A a1 b1 p1 q1 m1
            | succ j => exact RpAll.eqAt I ds _ _ _ _ A a2 b2 p2 q2 m2 j (Nat.lt_of_succ_lt_succ h1) (Nat.lt_of_succ_lt_succ h2)
end
def rEqP (K : PySem.W.Frag) : R2 := fun x y H Q => ∃ d ds, Rp K H x d ∧ Rp K H y d ∧ d.seq = some ds ∧ d.dep ≤ 60 ∧ Q (.bl true) H
def rNeP (K : PySem.W.Frag) : R2 := fun x y H Q => ∃ d ds, Rp K H x d ∧ Rp K H y d ∧ d.seq = some ds ∧ d.dep ≤ 60 ∧ Q (.bl false) H
end
section
variable {X : Cx}
theorem op_eqP (hu : X.A.units + 64 < cLine) : OpR X (compareOp .Eq) (rEqP X.K) := by
  intro pins s σ H x y v u Q I rx ry h
  obtain ⟨d, es, hx, hy, hd, hz, q⟩ := h
  cases hx with
  | @lst a xs ds hs ha =>
    cases hy with
    | @lst b ys _ ht hb =>
      cases (show v = Value.ref a from rx)
      cases (show u = Value.ref b from ry)
      obtain ⟨us, r1, p1, _⟩ := I.list hs
      obtain ⟨ws, r2, p2, _⟩ := I.list ht
      have hsz : us.toArray.size = ws.toArray.size := by rw [List.size_toArray, List.size_toArray, ← r1.length, ← r2.length, ha.length, hb.length]
      have hz' : Py.deps ds + 1 ≤ 60 := hz
      refine SeqAt.RcAt.lists (A := X.A) (e := fun _ => true) p1.isList p2.isList hsz (by omega) (fun j h1 h2 => ?_) _ _ _ _ ?_
      · have z := RpAll.eqAt I ds xs ys us ws X.A.in1 ha hb r1 r2 (units_in hu (by omega)) j (by simpa using h1) (by simpa using h2)
        simpa using z
      · rw [all_true]
        exact ⟨.bl true, H, I, rfl, q⟩
  | @tup a xs ds hs ha =>
    cases hy with
    | @tup b ys _ ht hb =>
      cases (show v = Value.ref a from rx)
      cases (show u = Value.ref b from ry)
      obtain ⟨us, r1, p1, _⟩ := I.tuple hs
      obtain ⟨ws, r2, p2, _⟩ := I.tuple ht
      have hsz : us.toArray.size = ws.toArray.size := by rw [List.size_toArray, List.size_toArray, ← r1.length, ← r2.length, ha.length, hb.length]
      have hz' : Py.deps ds + 1 ≤ 60 := hz
      refine SeqAt.RcAt.tuples (A := X.A) (e := fun _ => true) (show s.heap.IsTuple a us.toArray from p1) (show s.heap.IsTuple b ws.toArray from p2) (by omega) (fun j h1 h2 => ?_) _ _ _ _ ?_
      · have z := RpAll.eqAt I ds xs ys us ws X.A.in1 ha hb r1 r2 (units_in hu (by omega)) j (by simpa using h1) (by simpa using h2)
        simpa using z
      · rw [all_true, hsz, beq_self_eq_true]
        exact ⟨.bl true, H, I, rfl, q⟩
  | _ => exact nomatch hd
theorem op_neP (hu : X.A.units + 64 < cLine) : OpR X (compareOp .NotEq) (rNeP X.K) := by
  intro pins s σ H x y v u Q I rx ry h
  obtain ⟨d, es, hx, hy, hd, hz, q⟩ := h
  cases hx with
  | @lst a xs ds hs ha =>
    cases hy with
    | @lst b ys _ ht hb =>
      cases (show v = Value.ref a from rx)
      cases (show u = Value.ref b from ry)
      obtain ⟨us, r1, p1, _⟩ := I.list hs
      obtain ⟨ws, r2, p2, _⟩ := I.list ht
      have hsz : us.toArray.size = ws.toArray.size := by rw [List.size_toArray, List.size_toArray, ← r1.length, ← r2.length, ha.length, hb.length]
      have hz' : Py.deps ds + 1 ≤ 60 := hz
      refine SeqAt.RcNeAt.lists (A := X.A) (e := fun _ => true) p1.isList p2.isList hsz (by omega) (fun j h1 h2 => ?_) _ _ _ _ ?_
      · have z := RpAll.eqAt I ds xs ys us ws X.A.in1 ha hb r1 r2 (units_in hu (by omega)) j (by simpa using h1) (by simpa using h2)
        simpa using z
      · rw [all_true]
        exact ⟨.bl false, H, I, rfl, q⟩
  | @tup a xs ds hs ha =>
    cases hy with
    | @tup b ys _ ht hb =>
      cases (show v = Value.ref a from rx)
      cases (show u = Value.ref b from ry)
      obtain ⟨us, r1, p1, _⟩ := I.tuple hs
      obtain ⟨ws, r2, p2, _⟩ := I.tuple ht
      have hsz : us.toArray.size = ws.toArray.size := by rw [List.size_toArray, List.size_toArray, ← r1.length, ← r2.length, ha.length, hb.length]
      have hz' : Py.deps ds + 1 ≤ 60 := hz
      refine SeqAt.RcNeAt.tuples (A := X.A) (e := fun _ => true) (show s.heap.IsTuple a us.toArray from p1) (show s.heap.IsTuple b ws.toArray from p2) (by omega) (fun j h1 h2 => ?_) _ _ _ _ ?_
      · have z := RpAll.eqAt I ds xs ys us ws X.A.in1 ha hb r1 r2 (units_in hu (by omega)) j (by simpa using h1) (by simpa using h2)
        simpa using z
      · rw [all_true, hsz, beq_self_eq_true]
        exact ⟨.bl false, H, I, rfl, q⟩
  | _ => exact nomatch hd

/-! ### isinstance of data -/
def Py.kind : Py → String
  | .non => "NoneType" | .bl _ => "bool" | .int _ => "int" | .str _ => "str" | .lst _ => "list" | .tup _ => "tuple" | .dic _ => "dict"
theorem tyx_list {K : PySem.W.Frag} {H : Hp} {a : Addr} {xs : List V} (h : SqL K H a xs) : TyX K H (.ref a) (.type "list") := by
  rcases h with (h | ⟨o, h⟩) | ⟨o, its, n, h1, h2, _⟩
  · exact .base (.lst h)
  · exact .base (.frz h)
  · exact .kList h1 h2
theorem tyx_tup {K : PySem.W.Frag} {H : Hp} {a : Addr} {xs : List V} (h : SqT K H a xs) : TyX K H (.ref a) (.type "tuple") := by
  rcases h with (h | ⟨o, h⟩) | ⟨o, its, n, h1, h2, _⟩
  · exact .base (.tup h)
  · exact .fTuple h
  · exact .kTuple h1 h2
theorem Rp.ty {K : PySem.W.Frag} {H : Hp} {v : V} {d : Py} (h : Rp K H v d) : TyX K H v (.type d.kind) := by
  cases h with
  | non => exact .base .non
  | bl b => exact .base (.bl b)
  | int i => exact .base (.int i)
  | str x => exact .base (.str x)
  | lst hs _ => exact tyx_list hs
  | tup hs _ => exact tyx_tup hs
  | dic hd => exact .base (.dK hd)
end
end Kf

set_option Elab.async false
set_option linter.all false
set_option maxRecDepth 100000
set_option maxHeartbeats 4000000
namespace Kf
open PySem L2 Evl

/-! ### what is told of a value and the heap behind it -/
abbrev Pr := V → Hp → Prop
def EvP (te : TE) (σ : L2.St) (H : Hp) (P : Pr) : Prop := ∀ H1, Ex H H1 → ∀ Q : VK, (∀ v H2, Ex H1 H2 → P v H2 → Q v H2) → te σ H1 Q
def SpP (sp : Sp) (vs : List V) (H : Hp) (P : Pr) : Prop := ∀ H1, Ex H H1 → ∀ Q : VK, (∀ v H2, Ex H1 H2 → P v H2 → Q v H2) → ∀ E : XK, sp vs H1 Q E
def IsL (xs : List V) : Pr := fun v H => ∃ p, v = .ref p ∧ H p = some (.lst xs)
def IsU (xs : List V) : Pr := fun v H => ∃ p, v = .ref p ∧ H p = some (.tup xs)
section
variable {K : PySem.W.Frag} {σ : L2.St} {H H' : Hp} {ta tb te tx : TE} {t u : TT} {x y z v : V} {r : R2} {P P' : Pr}
theorem EvP.mono (e : Ex H H') (h : EvP te σ H P) : EvP te σ H' P := fun H1 a Q q => h H1 (e.trans a) Q q
theorem EvP.imp (h : EvP te σ H P) (k : ∀ v H1, Ex H H1 → P v H1 → P' v H1) : EvP te σ H P' := fun H1 a Q q => h H1 a Q fun v H2 a2 p => q v H2 a2 (k v H2 (a.trans a2) p)
theorem evp_ev (h : Ev te σ H v) (k : ∀ H1, Ex H H1 → P v H1) : EvP te σ H P := fun H1 a Q q => h H1 a Q fun H2 a2 => q v H2 a2 (k H2 (a.trans a2))
theorem ev_evp (h : EvP te σ H fun w _ => w = v) : Ev te σ H v := fun H1 a Q q => h H1 a Q fun w H2 a2 e => by
  subst e
  exact q H2 a2
theorem evp_L {xs : List V} (h : EvL te σ H xs) (k : ∀ p H1, Ex H H1 → H1 p = some (.lst xs) → P (.ref p) H1) : EvP te σ H P := fun H1 a Q q => h H1 a Q fun p H2 _ a2 e => q _ H2 a2 (k p H2 (a.trans a2) e)
theorem evp_U {xs : List V} (h : EvU te σ H xs) (k : ∀ p H1, Ex H H1 → H1 p = some (.tup xs) → P (.ref p) H1) : EvP te σ H P := fun H1 a Q q => h H1 a Q fun p H2 _ a2 e => q _ H2 a2 (k p H2 (a.trans a2) e)
/-- arguments that are made on the way -/
def EvAP (ta : TA) (σ : L2.St) (H : Hp) (P : List V → Hp → Prop) : Prop := ∀ H1, Ex H H1 → ∀ Q : List V → Hp → Prop, (∀ vs H2, Ex H1 H2 → P vs H2 → Q vs H2) → ta σ H1 Q
theorem eap_nil : EvAP tNil σ H fun vs _ => vs = [] := fun H1 _ Q q => q [] H1 (Ex.refl H1) rfl
theorem eap_of {vs : List V} (h : EvA tx2 σ H vs) : EvAP tx2 σ H fun ws _ => ws = vs := fun H1 a Q q => h H1 a Q fun H2 a2 => q vs H2 a2 rfl
theorem eap_cons {tr : TA} {R : List V → Hp → Prop} (h : EvP ta σ H P) (hr : ∀ v H1, Ex H H1 → P v H1 → EvAP tr σ H1 fun vs H2 => R (v :: vs) H2) : EvAP (tCons ta tr) σ H R := fun H1 a Q q =>
  h H1 a _ fun v H2 a2 p => hr v H2 (a.trans a2) p H2 (Ex.refl H2) _ fun vs H3 a3 r => q _ H3 (a2.trans a3) r
theorem evp_call {sp : Sp} {vs : List V} {E : XK} {ta : TA} (h : EvA ta σ H vs) (hs : SpP sp vs H P) : EvP (tCall sp [] E ta) σ H P := fun H1 a Q q =>
  h H1 a _ fun H2 a2 => by
    have k := hs H2 (a.trans a2) Q (fun v H3 a3 p => q v H3 (a2.trans a3) p) E
    show sp (vs ++ []) H2 Q E
    rw [List.append_nil]
    exact k
theorem evp_callP {sp : Sp} {E : XK} {ta : TA} {R : List V → Hp → Prop} (h : EvAP ta σ H R) (hs : ∀ vs H1, Ex H H1 → R vs H1 → SpP sp vs H1 P) : EvP (tCall sp [] E ta) σ H P := fun H1 a Q q =>
  h H1 a _ fun vs H2 a2 r => by
    have k := hs vs H2 (a.trans a2) r H2 (Ex.refl H2) Q (fun v H3 a3 p => q v H3 (a2.trans a3) p) E
    show sp (vs ++ []) H2 Q E
    rw [List.append_nil]
    exact k
theorem ev_callV {sp : Sp} {vs : List V} {E : XK} {ta : TA} (h : EvA ta σ H vs) (hs : SpV sp vs H z) : Ev (tCall sp [] E ta) σ H z := ev_call (dvs := []) h (by rw [List.append_nil]; exact hs)
theorem evp_op {P1 P2 : Pr} (ha : EvP ta σ H P1) (hb : ∀ v H1, Ex H H1 → P1 v H1 → EvP tb σ H1 P2) (hr : ∀ v w H1, Ex H H1 → P2 w H1 → (∃ H0, Ex H H0 ∧ Ex H0 H1 ∧ P1 v H0) → ∀ Q : VK, (∀ z H2, Ex H1 H2 → P z H2 → Q z H2) → r v w H1 Q) : EvP (tOp r ta tb) σ H P := fun H1 a Q q =>
  ha H1 a _ fun v H2 a2 p => hb v H2 (a.trans a2) p H2 (Ex.refl H2) _ fun w H3 a3 p3 => hr v w H3 ((a.trans a2).trans a3) p3 ⟨H2, a.trans a2, a3, p⟩ Q fun z H4 a4 pz => q z H4 ((a2.trans a3).trans a4) pz

/-! ### statements -/
variable {D : Ends} {tu tw tz : TS} {g : TG}
theorem s_asgP {i : Nat} (h : EvP te σ H P) (k : ∀ v H1, Ex H H1 → P v H1 → D.nx (σ.set i (some v)) H1) : tAsg te (gName i) D σ H := h H (Ex.refl H) _ k
theorem q_asgP {i : Nat} (h : EvP te σ H P) (k : ∀ v H1, Ex H H1 → P v H1 → tz D (σ.set i (some v)) H1) : tSeq (tAsg te (gName i)) tz D σ H := s_asgP (D := { D with nx := tz D }) h k
theorem s_retP (h : EvP te σ H P) (k : ∀ v H1, Ex H H1 → P v H1 → D.rt v H1) : tRet te D σ H := h H (Ex.refl H) _ k
theorem s_dropP (h : EvP te σ H P) (k : ∀ v H1, Ex H H1 → P v H1 → D.nx σ H1) : tDrop te D σ H := h H (Ex.refl H) _ k
theorem q_dropP (h : EvP te σ H P) (k : ∀ v H1, Ex H H1 → P v H1 → tz D σ H1) : tSeq (tDrop te) tz D σ H := s_dropP (D := { D with nx := tz D }) h k
/-- a, b = e -/
theorem q_asg2 {i j : Nat} (h : EvP te σ H fun v H1 => ∃ a x y, v = .ref a ∧ SqT K H1 a [x, y] ∧ P x H1 ∧ P' y H1) (k : ∀ x y H1, Ex H H1 → P x H1 → P' y H1 → tz D ((σ.set i (some x)).set j (some y)) H1) :
    tSeq (tAsg te (gTup K 2 (gCons (gName i) (gCons (gName j) gNil)))) tz D σ H := h H (Ex.refl H) _ fun v H1 a p => by
  obtain ⟨q, x, y, rfl, hq, p1, p2⟩ := p
  exact ⟨q, [x, y], rfl, hq, rfl, x, [y], rfl, y, [], rfl, rfl, k x y H1 a p1 p2⟩
/-- xs.append(e) -/
theorem s_appP {l : Addr} {xs : List V} (hl : H l = some (.lst xs)) (ha : Ev ta σ H (.ref l)) (h : EvP te σ H P) (hz : xs.length < 100000) (k : ∀ v H1, Ex H H1 → P v H1 → D.nx σ (upd H1 l (.lst (xs ++ [v])))) :
    tDrop (tBM K "list" rAppend ta (tCons te tNil)) D σ H := ha H (Ex.refl H) _ fun H1 e1 =>
  ⟨Or.inl ⟨rfl, xs, sq_of (e1 l _ hl)⟩, h H1 e1 _ fun v H2 e2 p => ⟨l, xs, v, rfl, rfl, e2 l _ (e1 l _ hl), sz_lt hz, k v H2 (e1.trans e2) p⟩⟩
theorem q_appP {l : Addr} {xs : List V} (hl : H l = some (.lst xs)) (ha : Ev ta σ H (.ref l)) (h : EvP te σ H P) (hz : xs.length < 100000) (k : ∀ v H1, Ex H H1 → P v H1 → tz D σ (upd H1 l (.lst (xs ++ [v])))) :
    tSeq (tDrop (tBM K "list" rAppend ta (tCons te tNil))) tz D σ H := s_appP (D := { D with nx := tz D }) hl ha h hz k
theorem q_iff {b : Bool} (h : EvT t σ H b) (h1 : b = true → ∀ H1, Ex H H1 → tu { D with nx := tz D } σ H1) (h2 : b = false → ∀ H1, Ex H H1 → tw { D with nx := tz D } σ H1) : tSeq (tIfS t tu tw) tz D σ H := q_if h h1 h2

/-! ### a for over a list or a tuple -/
theorem s_forS {a : Addr} {xs : List V} {tl : TE} (h : Ev tl σ H (.ref a)) (hx : Sq K H a xs) (Pv : Nat → L2.St → Hp → Prop) (h0 : ∀ H1, Ex H H1 → Pv 0 σ H1) (hl : ∀ i σ' H', i ≤ xs.length → Pv i σ' H' → Ex H H')
    (hs : ∀ i x σ' H', xs[i]? = some x → Pv i σ' H' → g x σ' H' fun σ2 H2 => tu { D with nx := Pv (i + 1), ct := Pv (i + 1), bk := D.nx } σ2 H2) (hd : ∀ σ' H', Pv xs.length σ' H' → D.nx σ' H') : tFor (iSeq K tl) g tu D σ H :=
  h H (Ex.refl H) _ fun H1 e => by
    rcases hx with hx | hx
    · exact ⟨a, xs, rfl, .inl ⟨ex_l e hx, for_list Pv (h0 H1 e) (fun i σ' H' hi p => ex_l (hl i σ' H' hi p) hx) hs hd⟩⟩
    · exact ⟨a, xs, rfl, .inr ⟨ex_t e hx, for_tup Pv (h0 H1 e) (fun i σ' H' hi p => ex_t (hl i σ' H' hi p) hx) hs hd⟩⟩
theorem q_forS {a : Addr} {xs : List V} {tl : TE} (h : Ev tl σ H (.ref a)) (hx : Sq K H a xs) (Pv : Nat → L2.St → Hp → Prop) (h0 : ∀ H1, Ex H H1 → Pv 0 σ H1) (hl : ∀ i σ' H', i ≤ xs.length → Pv i σ' H' → Ex H H')
    (hs : ∀ i x σ' H', xs[i]? = some x → Pv i σ' H' → g x σ' H' fun σ2 H2 => tu { D with nx := Pv (i + 1), ct := Pv (i + 1), bk := tz D } σ2 H2) (hd : ∀ σ' H', Pv xs.length σ' H' → tz D σ' H') : tSeq (tFor (iSeq K tl) g tu) tz D σ H :=
  s_forS (D := { D with nx := tz D }) h hx Pv h0 hl hs hd

/-! ### values of some operations -/
theorem rv_ixQ {p : Addr} {xs : List V} {i : Int} (h : Sq K H p xs) (ha : atI xs i = some v) : RV (rIxQ K) (.ref p) (.int i) H v := fun H1 e _ q => ⟨p, xs, i, v, rfl, rfl, h.ex e, ha, q H1 (Ex.refl H1)⟩
theorem ev_mul {i j : Int} (ha : Ev ta σ H (.int i)) (hb : Ev tb σ H (.int j)) (h : CMul i j) : Ev (tOp (rI CMul fun i j => .int (i * j)) ta tb) σ H (.int (i * j)) := ev_op ha hb (rv_I h)
theorem ev_mod {i j : Int} (ha : Ev ta σ H (.int i)) (hb : Ev tb σ H (.int j)) (h : 0 < j) : Ev (tOp (rI (fun _ j => 0 < j) fun i j => .int (i % j)) ta tb) σ H (.int (i % j)) := ev_op ha hb (rv_I h)
theorem ev_fdiv {i j : Int} (ha : Ev ta σ H (.int i)) (hb : Ev tb σ H (.int j)) (h : CDiv i j) : Ev (tOp (rI CDiv fun i j => .int (i / j)) ta tb) σ H (.int (i / j)) := ev_op ha hb (rv_I h)
theorem ev_pow {i j : Int} (ha : Ev ta σ H (.int i)) (hb : Ev tb σ H (.int j)) (h : CPow i j) : Ev (tOp (rI CPow fun i j => .int (i ^ j.toNat)) ta tb) σ H (.int (i ^ j.toNat)) := ev_op ha hb (rv_I h)
def rInt1 : List V → Hp → VK → Prop := fun xs H Q => (∃ i, xs = [.int i] ∧ Q (.int i) H) ∨ ∃ k, xs = [.bl k] ∧ Q (.int (if k then 1 else 0)) H
theorem ev_int {i : Int} (ha : Ev ta σ H (.int i)) : Ev (tCB rInt1 (tCons ta tNil)) σ H (.int i) := fun H1 e Q q => ha H1 e _ fun H2 e2 => Or.inl ⟨i, rfl, q H2 e2⟩
def rAbs1 : List V → Hp → VK → Prop := fun xs H Q => ∃ i, xs = [.int i] ∧ Q (.int (if i < 0 then -i else i)) H
theorem ev_abs {i : Int} (ha : Ev ta σ H (.int i)) : Ev (tCB rAbs1 (tCons ta tNil)) σ H (.int (if i < 0 then -i else i)) := fun H1 e Q q => ha H1 e _ fun H2 e2 => ⟨i, rfl, q H2 e2⟩
theorem ev_lenQ {p : Addr} {xs : List V} (ha : Ev ta σ H (.ref p)) (h : Sq K H p xs) : Ev (tCB (rLenS K) (tCons ta tNil)) σ H (.int (xs.length : Int)) := fun H1 e Q q =>
  ha H1 e _ fun H2 e2 => ⟨p, xs, rfl, h.ex (e.trans e2), q H2 e2⟩
theorem el_listQ {p : Addr} {xs : List V} (ha : Ev ta σ H (.ref p)) (h : Sq K H p xs) : EvL (tCB (rListS K) (tCons ta tNil)) σ H xs := fun H1 e Q q =>
  ha H1 e _ fun H2 e2 => ⟨p, xs, rfl, h.ex (e.trans e2), fun l hl => q l _ (fresh_back e2 hl) (e2.trans (Ex.new hl)) upd_same⟩
/-- isinstance -/
theorem kit1 {a : String} {c : String} {b : Bool} (h : kitB a c = some b) : PySem.W.kitOne K (.type a) (.type c) = some b := kit_ty h
def isT (d : Py) (c : String) : Bool := (kitB d.kind c).getD false
theorem isT_int (d : Py) : kitB d.kind "int" = some (match d with | .int _ => true | .bl _ => true | _ => false) := by cases d <;> (dsimp only [Py.kind]; decide +kernel)
theorem isT_bool (d : Py) : kitB d.kind "bool" = some (match d with | .bl _ => true | _ => false) := by cases d <;> (dsimp only [Py.kind]; decide +kernel)
theorem isT_str (d : Py) : kitB d.kind "str" = some (match d with | .str _ => true | _ => false) := by cases d <;> (dsimp only [Py.kind]; decide +kernel)
def isT_strB : Py → Bool
  | .str _ => true
  | _ => false
theorem isT_str' (d : Py) : kitB d.kind "str" = some (isT_strB d) := by cases d <;> (dsimp only [Py.kind, isT_strB]; decide +kernel)
theorem isT_list (d : Py) : kitB d.kind "list" = some (match d with | .lst _ => true | _ => false) := by cases d <;> (dsimp only [Py.kind]; decide +kernel)
theorem isT_tuple (d : Py) : kitB d.kind "tuple" = some (match d with | .tup _ => true | _ => false) := by cases d <;> (dsimp only [Py.kind]; decide +kernel)
theorem ev_isi {d : Py} {c : String} {b : Bool} (ha : Ev ta σ H x) (hd : Rp K H x d) (hk : kitB d.kind c = some b) : Ev (tCB (rIsi K) (tCons ta (tCons (tC (.ty c)) tNil))) σ H (.bl b) := fun H1 e Q q =>
  ha H1 e _ fun H2 e2 => ⟨x, .ty c, .type d.kind, .type c, b, rfl, .ty c, (hd.mo (e.trans e2)).ty, kit_ty hk, q H2 e2⟩
/-- isinstance(x, (list, tuple)) -/
theorem ev_isi2 {d : Py} (ha : Ev ta σ H x) (hd : Rp K H x d) : Ev (tCB (rIsiT K) (tCons ta (tCons (tTup (tCons (tC (.ty "list")) (tCons (tC (.ty "tuple")) tNil))) tNil))) σ H (.bl d.seq.isSome) := fun H1 e Q q =>
  ha H1 e _ fun H2 e2 => ⟨(by show 2 ≤ sizeLine; decide), fun p hp => by
    refine ⟨x, p, [.ty "list", .ty "tuple"], .type d.kind, [.type "list", .type "tuple"], d.seq.isSome, rfl, upd_same, .cons (.ty _) (.cons (.ty _) .nil), (hd.mo ((e.trans e2).trans (Ex.new hp))).ty, ?_, q _ (e2.trans (Ex.new hp))⟩
    refine kitAny_cons (kit_ty (isT_list d)) (fun hb => kitAny_cons (kit_ty (isT_tuple d)) (fun hb2 => ?_) (fun hb2 => ?_)) (fun hb => ?_)
    · cases d <;> first | rfl | exact nomatch (show true = false from hb) | exact nomatch (show true = false from hb2)
    · cases d <;> first | rfl | exact nomatch (show false = true from hb2)
    · cases d <;> first | rfl | exact nomatch (show false = true from hb)⟩
theorem ev_chain {i j k : Int} {p q : Int → Int → Bool} {tc : TE} (ha : Ev ta σ H (.int i)) (hb : Ev tb σ H (.int j)) (hc : Ev tc σ H (.int k)) :
    Ev (tChain (rI0 fun i j => .bl (p i j)) (rI0 fun i j => .bl (q i j)) ta tb tc) σ H (.bl (p i j && q j k)) := fun H1 e Q f =>
  ha H1 e _ fun H2 e2 => hb H2 (e.trans e2) _ fun H3 e3 => ⟨i, j, rfl, rfl, p i j, rfl, by
    cases hp : p i j with
    | true =>
      show tc σ H3 _
      refine hc H3 ((e.trans e2).trans e3) _ fun H4 e4 => ⟨j, k, rfl, rfl, ?_⟩
      have g := f H4 ((e2.trans e3).trans e4)
      rw [hp] at g
      exact g
    | false =>
      show Q (.bl false) H3
      have g := f H3 (e2.trans e3)
      rw [hp] at g
      exact g⟩
theorem q_par3 {i j l : Nat} {ta : TA} {x y z : V} (h : EvA ta σ H [x, y, z]) (k : ∀ H1, Ex H H1 → tz D (((σ.set i (some x)).set j (some y)).set l (some z)) H1) : tSeq (tPar3 i j l ta) tz D σ H :=
  h H (Ex.refl H) _ fun H1 e => ⟨x, y, z, rfl, k H1 e⟩
/-- s.pop() of a list of one's own, the value told -/
theorem atI_zero (x : V) (xs : List V) : atI (x :: xs) 0 = some x := atI_nat (j := 0) rfl
theorem atI_getD {l : List V} {i : Int} {d : V} (h0 : 0 ≤ i) (h : i < l.length) : atI l i = some (l.getD i.toNat d) := by
  obtain ⟨n, rfl⟩ : ∃ n : Nat, i = n := ⟨i.toNat, by omega⟩
  refine atI_nat ?_
  rw [Int.toNat_natCast, List.getD_eq_getElem?_getD, List.getElem?_eq_getElem (by omega)] <;> rfl
theorem atI_ints {l : List Int} {i : Int} (h0 : 0 ≤ i) (h : i < l.length) : atI (l.map V.int) i = some (.int (l.getD i.toNat 0)) := by
  obtain ⟨n, rfl⟩ : ∃ n : Nat, i = n := ⟨i.toNat, by omega⟩
  refine atI_nat ?_
  rw [List.getElem?_map, Int.toNat_natCast, List.getD_eq_getElem?_getD, List.getElem?_eq_getElem (by omega)] <;> rfl
end
section
variable {X : Cx} {tg l : Expr} {tl : TE}
theorem pi_lt (hl : PE X l tl) : PI X tg l (iSeq X.K tl) := by
  refine ⟨fun pins s σ H R I h => thn (hl.run pins s σ H _ I h) fun v s1 ⟨x, H1, I1, r1, q1⟩ => ?_⟩
  obtain ⟨a, xs, rfl, q⟩ := q1
  cases r1
  have fr : ∀ b ∈ [s1.heap.objs.size], FpOk X pins H1 b := fun b hb => by
    have e : b = s1.heap.objs.size := by simpa using hb
    rw [e]
    exact I1.fpOk (Nat.le_refl _) (I1.hok.fresh (Nat.le_refl _))
  rcases q with ⟨hq, q⟩ | ⟨hq, q⟩
  · obtain ⟨its, rv, p, hz⟩ := I1.list hq
    exact wpAny_pyIter_list p.isList ⟨s1.heap.objs.size, [s1.heap.objs.size], _, _, H1, rfl, I1.kept (t' := s1.toks) fun b o e => Heap.get?_push_of_some _ e, turn_list a _, ⟨_, Heap.get?_push_size _ rfl, rfl, rfl⟩, fr, q⟩
  · obtain ⟨its, rv, p, hz⟩ := I1.tuple hq
    exact wpAny_pyIter_tuple (show s1.heap.IsTuple a its.toArray from p) ⟨s1.heap.objs.size, [s1.heap.objs.size], _, _, H1, rfl, I1.kept (t' := s1.toks) fun b o e => Heap.get?_push_of_some _ e, turn_tuple a _, ⟨_, Heap.get?_push_size _ rfl, rfl, rfl⟩, fr, q⟩
end
end Kf

set_option Elab.async false
set_option linter.all false
set_option maxRecDepth 100000
set_option maxHeartbeats 4000000
namespace Kf
open PySem L2 Evl

/-! ### what the checks tell of data -/
def isWhole : Py → Bool
  | .int _ => true
  | _ => false
def boundedB (d : Py) (lo hi : Int) : Bool := match d with
  | .int i => decide (lo ≤ i) && decide (i ≤ hi)
  | _ => false
def factorsB : List Py → Bool
  | [] => true
  | d :: ds => boundedB d (-99) 99 && factorsB ds
def modB (r m : Py) : Bool := match m with
  | .int i => boundedB (.int i) 1 12 && boundedB r 0 (i - 1)
  | _ => false
def rightIs (fs r m : Py) : Bool := match fs.seq with
  | some l => if l.length = 3 then factorsB l && modB r m else false
  | none => false
def arity (w : Str) : Option Nat := if w = "is" then some 4 else if w = "not" then some 2 else if w = "and" then some 3 else if w = "or" then some 3 else none
def rightB : List Py → Bool
  | .str w :: r => if arity w = some (r.length + 1) then (if w = "is" then (match r with
    | [a, b, c] => rightIs a b c
    | _ => false) else true) else false
  | _ => false
def shapeB (d : Py) (n : Nat) : Bool := match d.seq with
  | some ds => decide (n < 8) && rightB ds
  | none => false

/-! ### claims that are right -/
inductive Cl where
  | is (f g h r m : Int) | not (c : Cl) | and (a b : Cl) | or (a b : Cl)
def Cl.depth : Cl → Nat
  | .is .. => 1
  | .not c => c.depth + 1
  | .and a b => max a.depth b.depth + 1
  | .or a b => max a.depth b.depth + 1
structure LeafOk (f g h r m : Int) : Prop where
  f0 : -99 ≤ f ∧ f ≤ 99
  g0 : -99 ≤ g ∧ g ≤ 99
  h0 : -99 ≤ h ∧ h ≤ 99
  m0 : 1 ≤ m ∧ m ≤ 12
  r0 : 0 ≤ r ∧ r ≤ m - 1
def Cl.Ok : Cl → Prop
  | .is f g h r m => LeafOk f g h r m
  | .not c => c.Ok
  | .and a b => a.Ok ∧ b.Ok
  | .or a b => a.Ok ∧ b.Ok
/-- the data are this claim -/
def IsCl : Cl → Py → Prop
  | .is f g h r m, d => ∃ e, d.seq = some [.str "is", e, .int r, .int m] ∧ e.seq = some [.int f, .int g, .int h]
  | .not c, d => ∃ e, d.seq = some [.str "not", e] ∧ IsCl c e
  | .and a b, d => ∃ e f, d.seq = some [.str "and", e, f] ∧ IsCl a e ∧ IsCl b f
  | .or a b, d => ∃ e f, d.seq = some [.str "or", e, f] ∧ IsCl a e ∧ IsCl b f
theorem Cl.pos : ∀ c : Cl, 1 ≤ c.depth
  | .is .. => Nat.le_refl 1
  | .not c => Nat.succ_le_succ (Nat.zero_le _)
  | .and a b => Nat.succ_le_succ (Nat.zero_le _)
  | .or a b => Nat.succ_le_succ (Nat.zero_le _)
theorem rightIs_leaf {e : Py} {f g h r m : Int} (ok : LeafOk f g h r m) (he : e.seq = some [.int f, .int g, .int h]) : rightIs e (.int r) (.int m) = true := by
  obtain ⟨⟨a1, a2⟩, ⟨b1, b2⟩, ⟨c1, c2⟩, ⟨d1, d2⟩, e1, e2⟩ := ok
  unfold rightIs
  rw [he]
  show (if ([Py.int f, .int g, .int h] : List Py).length = 3 then factorsB [Py.int f, .int g, .int h] && modB (.int r) (.int m) else false) = true
  refine (if_pos (show ([Py.int f, .int g, .int h] : List Py).length = 3 from rfl)).trans ?_
  simp only [factorsB, modB, boundedB, a1, a2, b1, b2, c1, c2, d1, d2, e1, e2, decide_true, Bool.and_self]
theorem arity_is : arity "is" = some 4 := by decide +kernel
theorem arity_not : arity "not" = some 2 := by decide +kernel
theorem arity_and : arity "and" = some 3 := by decide +kernel
theorem arity_or : arity "or" = some 3 := by decide +kernel
theorem rightB_other {w : Str} {r : List Py} (h : arity w = some (r.length + 1)) (hw : w ≠ "is") : rightB (.str w :: r) = true := by
  exact (if_pos (c := arity w = some (r.length + 1)) h).trans (if_neg hw)
theorem shape_cl : ∀ {c : Cl} {d : Py} {n : Nat}, c.Ok → IsCl c d → n < 8 → shapeB d n = true
  | .is f g h r m, d, n, ok, hc, hn => by
    obtain ⟨e, h1, h2⟩ := hc
    have k : rightB [.str "is", e, .int r, .int m] = rightIs e (.int r) (.int m) := by
      show (if arity "is" = some (([e, .int r, .int m] : List Py).length + 1) then (if ("is" : Str) = "is" then rightIs e (.int r) (.int m) else true) else false) = rightIs e (.int r) (.int m)
      rw [if_pos (show arity "is" = some (([e, .int r, .int m] : List Py).length + 1) from arity_is), if_pos rfl]
    unfold shapeB
    rw [h1]
    show (decide (n < 8) && rightB [.str "is", e, .int r, .int m]) = true
    rw [k, rightIs_leaf ok h2, decide_eq_true hn] <;> rfl
  | .not c, d, n, ok, hc, hn => by
    obtain ⟨e, h1, h2⟩ := hc
    unfold shapeB
    rw [h1]
    show (decide (n < 8) && rightB [.str "not", e]) = true
    rw [rightB_other arity_not (by decide +kernel), decide_eq_true hn] <;> rfl
  | .and a b, d, n, ok, hc, hn => by
    obtain ⟨e, f, h1, h2⟩ := hc
    unfold shapeB
    rw [h1]
    show (decide (n < 8) && rightB [.str "and", e, f]) = true
    rw [rightB_other arity_and (by decide +kernel), decide_eq_true hn] <;> rfl
  | .or a b, d, n, ok, hc, hn => by
    obtain ⟨e, f, h1, h2⟩ := hc
    unfold shapeB
    rw [h1]
    show (decide (n < 8) && rightB [.str "or", e, f]) = true
    rw [rightB_other arity_or (by decide +kernel), decide_eq_true hn] <;> rfl
/-- the claims in a claim -/
def Cl.kids : Cl → List Cl
  | .is .. => []
  | .not c => [c]
  | .and a b => [a, b]
  | .or a b => [a, b]
def Cl.word : Cl → Str
  | .is .. => "is"
  | .not _ => "not"
  | .and .. => "and"
  | .or .. => "or"
theorem Cl.word_is {c : Cl} (h : c.kids ≠ []) : c.word ≠ "is" := by
  cases c with
  | is => exact absurd rfl h
  | not => show ("not" : Str) ≠ "is"; decide +kernel
  | and => show ("and" : Str) ≠ "is"; decide +kernel
  | or => show ("or" : Str) ≠ "is"; decide +kernel
theorem Cl.kid_ok {c k : Cl} (h : k ∈ c.kids) (ok : c.Ok) : k.Ok ∧ k.depth + 1 ≤ c.depth := by
  cases c with
  | is => simp [Cl.kids] at h
  | not c =>
    have e : k = c := by simpa [Cl.kids] using h
    subst e
    exact ⟨ok, Nat.le_refl _⟩
  | and a b =>
    have e : k = a ∨ k = b := by simpa [Cl.kids] using h
    rcases e with rfl | rfl
    · exact ⟨ok.1, Nat.succ_le_succ (Nat.le_max_left _ _)⟩
    · exact ⟨ok.2, Nat.succ_le_succ (Nat.le_max_right _ _)⟩
  | or a b =>
    have e : k = a ∨ k = b := by simpa [Cl.kids] using h
    rcases e with rfl | rfl
    · exact ⟨ok.1, Nat.succ_le_succ (Nat.le_max_left _ _)⟩
    · exact ⟨ok.2, Nat.succ_le_succ (Nat.le_max_right _ _)⟩
def Kids (K : PySem.W.Frag) (H : Hp) (xs : List V) (cs : List Cl) : Prop := xs.length = cs.length ∧ ∀ (i : Nat) x, xs[i]? = some x → ∃ c d, cs[i]? = some c ∧ Rp K H x d ∧ IsCl c d
theorem Kids.mo {K : PySem.W.Frag} {H H' : Hp} {xs : List V} {cs : List Cl} (h : Kids K H xs cs) (e : Ex H H') : Kids K H' xs cs := ⟨h.1, fun i x q => by
  obtain ⟨c, d, a, b, k⟩ := h.2 i x q
  exact ⟨c, d, a, b.mo e, k⟩⟩
theorem kids_of {K : PySem.W.Frag} {H : Hp} {v : V} {d : Py} {c : Cl} (hd : Rp K H v d) (hc : IsCl c d) (hn : c.kids ≠ []) : ∃ a xs, v = .ref a ∧ Sq K H a (.str c.word :: xs) ∧ Kids K H xs c.kids := by
  cases c with
  | is => exact absurd rfl hn
  | not c =>
    obtain ⟨e, h1, h2⟩ := hc
    obtain ⟨a, xs, rfl, hq, ha⟩ := hd.sq h1
    cases ha with
    | cons p1 r1 => cases p1; cases r1 with
      | cons p2 r2 => cases r2; exact ⟨a, _, rfl, hq, rfl, fun i x q => by
          match i, q with
          | 0, q => cases (Option.some.inj q); exact ⟨c, e, rfl, p2, h2⟩⟩
  | and c1 c2 =>
    obtain ⟨e, f, h1, h2, h3⟩ := hc
    obtain ⟨a, xs, rfl, hq, ha⟩ := hd.sq h1
    cases ha with
    | cons p1 r1 => cases p1; cases r1 with
      | cons p2 r2 => cases r2 with
        | cons p3 r3 => cases r3; exact ⟨a, _, rfl, hq, rfl, fun i x q => by
            match i, q with
            | 0, q => cases (Option.some.inj q); exact ⟨c1, e, rfl, p2, h2⟩
            | 1, q => cases (Option.some.inj q); exact ⟨c2, f, rfl, p3, h3⟩⟩
  | or c1 c2 =>
    obtain ⟨e, f, h1, h2, h3⟩ := hc
    obtain ⟨a, xs, rfl, hq, ha⟩ := hd.sq h1
    cases ha with
    | cons p1 r1 => cases p1; cases r1 with
      | cons p2 r2 => cases r2 with
        | cons p3 r3 => cases r3; exact ⟨a, _, rfl, hq, rfl, fun i x q => by
            match i, q with
            | 0, q => cases (Option.some.inj q); exact ⟨c1, e, rfl, p2, h2⟩
            | 1, q => cases (Option.some.inj q); exact ⟨c2, f, rfl, p3, h3⟩⟩
theorem leaf_of {K : PySem.W.Frag} {H : Hp} {v : V} {d : Py} {f g h r m : Int} (hd : Rp K H v d) (hc : IsCl (.is f g h r m) d) :
    ∃ a b, v = .ref a ∧ Sq K H a [.str "is", .ref b, .int r, .int m] ∧ Sq K H b [.int f, .int g, .int h] := by
  obtain ⟨e, h1, h2⟩ := hc
  obtain ⟨a, xs, rfl, hq, ha⟩ := hd.sq h1
  cases ha with
  | cons p1 r1 => cases p1; cases r1 with
    | cons p2 r2 => cases r2 with
      | cons p3 r3 => cases p3; cases r3 with
        | cons p4 r4 =>
          cases p4; cases r4
          obtain ⟨b, ys, rfl, hb, hy⟩ := p2.sq h2
          cases hy with
          | cons s1 t1 => cases s1; cases t1 with
            | cons s2 t2 => cases s2; cases t2 with
              | cons s3 t3 => cases s3; cases t3; exact ⟨a, b, rfl, hq, hb⟩
/-- its modulus, its truth -/
def Cl.many : Cl → Nat
  | .is _ _ _ _ m => m.toNat
  | .not c => c.many
  | .and a b => a.many.lcm b.many
  | .or a b => a.many.lcm b.many
def Cl.at (x y z : Int) : Cl → Bool
  | .is f g h r m => decide ((f * x + g * y + h * z) % m = r)
  | .not c => !c.at x y z
  | .and a b => a.at x y z && b.at x y z
  | .or a b => a.at x y z || b.at x y z
theorem Cl.dvd : ∀ {c : Cl}, c.Ok → c.many ∣ 27720 ∧ 0 < c.many
  | .is f g h r m, ok => by
    obtain ⟨d1, d2⟩ := ok.m0
    have e : m = 1 ∨ m = 2 ∨ m = 3 ∨ m = 4 ∨ m = 5 ∨ m = 6 ∨ m = 7 ∨ m = 8 ∨ m = 9 ∨ m = 10 ∨ m = 11 ∨ m = 12 := by omega
    rcases e with rfl | rfl | rfl | rfl | rfl | rfl | rfl | rfl | rfl | rfl | rfl | rfl <;> (unfold Cl.many; decide)
  | .not c, ok => Cl.dvd (c := c) ok
  | .and a b, ok => ⟨Nat.lcm_dvd (Cl.dvd ok.1).1 (Cl.dvd ok.2).1, Nat.lcm_pos (Cl.dvd ok.1).2 (Cl.dvd ok.2).2⟩
  | .or a b, ok => ⟨Nat.lcm_dvd (Cl.dvd ok.1).1 (Cl.dvd ok.2).1, Nat.lcm_pos (Cl.dvd ok.1).2 (Cl.dvd ok.2).2⟩
def lcmL (l : List Cl) : Nat := l.foldl (fun n c => n.lcm c.many) 1
theorem lcmL_kids {c : Cl} (h : c.kids ≠ []) : lcmL c.kids = c.many := by
  cases c with
  | is => exact absurd rfl h
  | not c => show (1 : Nat).lcm c.many = c.many; rw [Nat.lcm_comm, Nat.lcm_one_right]
  | and a b => show ((1 : Nat).lcm a.many).lcm b.many = a.many.lcm b.many; rw [Nat.lcm_comm 1, Nat.lcm_one_right]
  | or a b => show ((1 : Nat).lcm a.many).lcm b.many = a.many.lcm b.many; rw [Nat.lcm_comm 1, Nat.lcm_one_right]
theorem lcmL_take {l : List Cl} {i : Nat} {c : Cl} (h : l[i]? = some c) : lcmL (l.take (i + 1)) = (lcmL (l.take i)).lcm c.many := by
  have e : l.take (i + 1) = l.take i ++ [c] := by
    obtain ⟨hi, e⟩ := List.getElem?_eq_some_iff.mp h
    rw [← e, List.take_append_getElem hi]
  unfold lcmL
  rw [e, List.foldl_append] <;> rfl
theorem lcmL_dvd : ∀ (l : List Cl) (n : Nat), n ∣ 27720 → 0 < n → (∀ c ∈ l, c.Ok) → l.foldl (fun n c => n.lcm c.many) n ∣ 27720 ∧ 0 < l.foldl (fun n c => n.lcm c.many) n
  | [], n, h, h0, _ => ⟨h, h0⟩
  | c :: r, n, h, h0, hc => lcmL_dvd r _ (Nat.lcm_dvd h (Cl.dvd (hc c List.mem_cons_self)).1) (Nat.lcm_pos h0 (Cl.dvd (hc c List.mem_cons_self)).2) fun x hx => hc x (List.mem_cons_of_mem _ hx)
theorem lcmL_le {l : List Cl} (h : ∀ c ∈ l, c.Ok) : lcmL l ≤ 27720 := Nat.le_of_dvd (by decide) (lcmL_dvd l 1 (Nat.one_dvd _) (by decide) h).1
theorem Cl.le_many {c : Cl} (ok : c.Ok) : c.many ≤ 27720 := Nat.le_of_dvd (by decide) (Cl.dvd ok).1
end Kf

set_option Elab.async false
set_option linter.all false
set_option maxRecDepth 100000
set_option maxHeartbeats 4000000
namespace Kf
open PySem L2 Evl

def top (i : Nat) : Stmt := PySem.Challenge.pw_fewfounders_k54_claims_checked.main.body.getD i (.Pass ⟨0, 0, 0, 0⟩)
/-- the def st stands in the module under this name -/
def At (K : PySem.W.Frag) (mg : Str → Option Value) (name : Str) (st : Stmt) (ps : List Str) : Prop := ∃ f fd, Fun K name name st f fd ∧ mg name = some (.ref f) ∧ Binds K fd ps []
/-- the module's constants -/
structure Mc (K : PySem.W.Frag) (w : World) (mg : Str → Option Value) (t8 t12 : Tok) (wd : Addr) (es : Array DictEntry) (n : Nat) : Prop where
  deep : mg "DEEPEST" = some (.int 8 t8)
  most : mg "MOST_MODULUS" = some (.int 12 t12)
  words : mg "WORDS" = some (.ref wd)
  D : KDict K w wd es n
  k1 : ∃ t, PySem.W.nsIn K wd "is" = some (some (.int 4 t))
  k2 : ∃ t, PySem.W.nsIn K wd "not" = some (some (.int 2 t))
  k3 : ∃ t, PySem.W.nsIn K wd "and" = some (some (.int 3 t))
  k4 : ∃ t, PySem.W.nsIn K wd "or" = some (some (.int 3 t))
  k5 : ∀ z : Str, arity z = none → PySem.W.nsIn K wd z = some none
theorem hu64 {k : Nat} {A : Around} (hr : Room k A) : A.units + 64 < cLine := by have := hr.un; omega

section
variable {X : Cx} {d : Addr} {es : Array DictEntry} {n : Nat}
def rKd (K : PySem.W.Frag) (d : Addr) : R2 := fun x y H Q => ∃ (z : Str) (u0 : Value) (v0 : V), x = .ref d ∧ y = .str z ∧ PySem.W.nsIn K d z = some (some u0) ∧ RelV v0 u0 ∧ Q v0 H
theorem ix_kd (D : KDict X.K X.w d es n) : IxR X (rKd X.K d) := by
  intro value slice pins s σ H x y v u Q I rx ry h hs
  have h' := h
  obtain ⟨z, u0, v0, rfl, rfl, _⟩ := h'
  cases rx
  exact PyProof.Rows.tail_any (kd_type D I) PySem.F.slot_dict_getitem.lookup (op_item_kd D pins s σ H (.ref d) (.str z) (Value.ref d) u Q I (show RelV (.ref d) (Value.ref d) from rfl) ry h) hs
def rLcm : List V → Hp → VK → Prop := fun vs H Q => ∃ a b : Nat, vs = [.int a, .int b] ∧ a ≤ 100000 ∧ b ≤ 100000 ∧ a.lcm b ≤ 100000 ∧ Q (.int (a.lcm b : Nat)) H
theorem cr_lcm : CallR X (.builtin "math.lcm") rLcm := by
  intro pins s σ H vs us Q I r h
  obtain ⟨a, b, rfl, ha, hb, hc, q⟩ := h
  obtain ⟨t, u, rfl⟩ := Vals.int2 r
  refine PySem.W.mg_lcm_v (c := ((a.lcm b : Nat) : Int)) (by omega) (by omega) ?_ ?_ ⟨.int _, H, I.tok _, ⟨_, rfl⟩, q⟩
  · rw [Int.natAbs_natCast, Int.natAbs_natCast, Nat.lcm_comm 1 a, Nat.lcm_one_right]
  · rw [Int.natAbs_natCast]
    refine Nat.lt_of_le_of_lt (m := 17) ?_ (by decide)
    by_cases z : a.lcm b = 0
    · rw [z]; decide
    · exact Nat.le_of_lt_succ ((Nat.log2_lt z).mpr (by omega))
end

/-! ### promises -/
def spWhole (K : PySem.W.Frag) : Sp := fun vs H Q _ => ∃ x d, vs = [x] ∧ Rp K H x d ∧ RetV (.bl (isWhole d)) H Q
def spDot (K : PySem.W.Frag) : Sp := fun vs H Q _ => ∃ (p q : Addr) (f g h x y z : Int), vs = [.ref p, .ref q] ∧ Sq K H p [.int f, .int g, .int h] ∧ Sq K H q [.int x, .int y, .int z] ∧
  (-99 ≤ f ∧ f ≤ 99) ∧ (-99 ≤ g ∧ g ≤ 99) ∧ (-99 ≤ h ∧ h ≤ 99) ∧ RetV (.int (f * x + g * y + h * z)) H Q
def spBounded (K : PySem.W.Frag) : Sp := fun vs H Q _ => ∃ x d lo hi, vs = [x, .int lo, .int hi] ∧ Rp K H x d ∧ RetV (.bl (boundedB d lo hi)) H Q
def spRightIs (K : PySem.W.Frag) : Sp := fun vs H Q _ => ∃ p x0 x1 x2 x3 d1 d2 d3, vs = [.ref p] ∧ Sq K H p [x0, x1, x2, x3] ∧ Rp K H x1 d1 ∧ Rp K H x2 d2 ∧ Rp K H x3 d3 ∧ RetV (.bl (rightIs d1 d2 d3)) H Q
def spRightShape (K : PySem.W.Frag) : Sp := fun vs H Q _ => ∃ x d p ps, vs = [x, .ref p] ∧ Rp K H x d ∧ SqT K H p ps ∧ RetV (.bl (shapeB d ps.length)) H Q

section
variable {P : Program} {w : World} {K : PySem.W.Frag} {mg : Str → Option Value} {base : Heap} {H : Hp}
theorem sv_whole {x : V} {d : Py} (h : Rp K H x d) : SpV (spWhole K) [x] H (.bl (isWhole d)) := fun H1 e Q q E => ⟨x, d, rfl, h.mo e, q⟩
theorem sv_dot {p q : Addr} {f g h x y z : Int} (h1 : Sq K H p [.int f, .int g, .int h]) (h2 : Sq K H q [.int x, .int y, .int z]) (h3 : -99 ≤ f ∧ f ≤ 99) (h4 : -99 ≤ g ∧ g ≤ 99) (h5 : -99 ≤ h ∧ h ≤ 99) :
    SpV (spDot K) [.ref p, .ref q] H (.int (f * x + g * y + h * z)) := fun H1 e Q k E => ⟨p, q, f, g, h, x, y, z, rfl, h1.ex e, h2.ex e, h3, h4, h5, k⟩
theorem sv_bounded {x : V} {d : Py} {lo hi : Int} (h : Rp K H x d) : SpV (spBounded K) [x, .int lo, .int hi] H (.bl (boundedB d lo hi)) := fun H1 e Q q E => ⟨x, d, lo, hi, rfl, h.mo e, q⟩
theorem sv_rightIs {p : Addr} {x0 x1 x2 x3 : V} {d1 d2 d3 : Py} (h : Sq K H p [x0, x1, x2, x3]) (h1 : Rp K H x1 d1) (h2 : Rp K H x2 d2) (h3 : Rp K H x3 d3) : SpV (spRightIs K) [.ref p] H (.bl (rightIs d1 d2 d3)) := fun H1 e Q q E =>
  ⟨p, x0, x1, x2, x3, d1, d2, d3, rfl, h.ex e, h1.mo e, h2.mo e, h3.mo e, q⟩
theorem sv_rightShape {x : V} {d : Py} {p : Addr} {ps : List V} (h : Rp K H x d) (hp : SqT K H p ps) : SpV (spRightShape K) [x, .ref p] H (.bl (shapeB d ps.length)) := fun H1 e Q q E => ⟨x, d, p, ps, rfl, h.mo e, ex_t e hp, q⟩

/-! ### bodies -/
abbrev sWhole : Stmt := top 13
theorem scWhole : FnScope ["value"] ["value"] (defScope sWhole) := ⟨rfl, rfl, rfl, by decide +kernel, rfl, by decide +kernel, by decide +kernel⟩
abbrev sDot : Stmt := top 14
theorem scDot : FnScope ["one", "two"] ["one", "two"] (defScope sDot) := ⟨rfl, rfl, rfl, by decide +kernel, rfl, by decide +kernel, by decide +kernel⟩
abbrev sBounded : Stmt := top 19
theorem scBounded : FnScope ["number", "low", "high"] ["number", "low", "high"] (defScope sBounded) := ⟨rfl, rfl, rfl, by decide +kernel, rfl, by decide +kernel, by decide +kernel⟩
abbrev sRightIs : Stmt := top 20
theorem scRightIs : FnScope ["claim", "factors", "rest", "modulus", "factor"] ["claim"] (defScope sRightIs) := ⟨rfl, rfl, rfl, by decide +kernel, rfl, by decide +kernel, by decide +kernel⟩
abbrev sRightShape : Stmt := top 21
theorem scRightShape : FnScope ["claim", "path", "word"] ["claim", "path"] (defScope sRightShape) := ⟨rfl, rfl, rfl, by decide +kernel, rfl, by decide +kernel, by decide +kernel⟩
theorem df_whole (B : Bi mg) (S : At K mg "whole" sWhole ["value"]) : Df P w K mg base CX0 "whole" 1 ["value"] (spWhole K) := by
  obtain ⟨f, fd, F, m, b⟩ := S
  refine ⟨f, fd, m, F.kp, b, F.ok scWhole (fun vs H Q E h => ?_) (fun cdv A outer s H vs Q E hr h => ?_)⟩
  · obtain ⟨x, d, rfl, _⟩ := h
    rfl
  obtain ⟨x, d, rfl, hd, q⟩ := h
  refine ⟨_, (pss_one (ps_ret (pe_and (pe_callB call_isi rfl B.isinstance PyProof.Rows.boot_isinstance (pa_cons (pv 0) (pa_cons (pe_bltn (v := .ty "int") rfl B.int PyProof.Rows.boot_int rfl) pa_nil))) (pe_one (pe_not (pe_callB call_isi rfl B.isinstance PyProof.Rows.boot_isinstance (pa_cons (pv 0) (pa_cons (pe_bltn (v := .ty "bool") rfl B.bool PyProof.Rows.boot_bool rfl) pa_nil)))))))), ?_⟩
  refine s_ret (v := .bl (isWhole d)) (ev_is (ev_andV (ev_isi (ev_var rfl) hd (isT_int d)) (fun _ => ev_notV (ev_isi (ev_var rfl) hd (isT_bool d)))) ?_) fun H1 e => q H1 e
  cases d <;> rfl
theorem df_dot (S : At K mg "dot" sDot ["one", "two"]) : Df P w K mg base CX0 "dot" 1 ["one", "two"] (spDot K) := by
  obtain ⟨f, fd, F, m, b⟩ := S
  refine ⟨f, fd, m, F.kp, b, F.ok scDot (fun vs H Q E h => ?_) (fun cdv A outer s H vs Q E hr h => ?_)⟩
  · obtain ⟨p, q, f, g, h, x, y, z, rfl, _⟩ := h
    rfl
  obtain ⟨p, q, f, g, h, x, y, z, rfl, h1, h2, h3, h4, h5, k⟩ := h
  refine ⟨_, (pss_one (ps_ret (pe_op op_add (pe_op op_add (pe_op op_mul (pe_ix ix_lt (pv 0) pe_int (fun _ _ => rfl)) (pe_ix ix_lt (pv 1) pe_int (fun _ _ => rfl))) (pe_op op_mul (pe_ix ix_lt (pv 0) pe_int (fun _ _ => rfl)) (pe_ix ix_lt (pv 1) pe_int (fun _ _ => rfl)))) (pe_op op_mul (pe_ix ix_lt (pv 0) pe_int (fun _ _ => rfl)) (pe_ix ix_lt (pv 1) pe_int (fun _ _ => rfl)))))), ?_⟩
  refine s_ret (v := .int (f * x + g * y + h * z)) ?_ fun H1 e => k H1 e
  exact ev_op (ev_op (ev_mul (ev_op (ev_var rfl) ev_c (rv_ixQ h1 rfl)) (ev_op (ev_var rfl) ev_c (rv_ixQ h2 rfl)) (.inl ⟨by omega, by omega⟩))
    (ev_mul (ev_op (ev_var rfl) ev_c (rv_ixQ h1 rfl)) (ev_op (ev_var rfl) ev_c (rv_ixQ h2 rfl)) (.inl ⟨by omega, by omega⟩)) rv_I0)
    (ev_mul (ev_op (ev_var rfl) ev_c (rv_ixQ h1 rfl)) (ev_op (ev_var rfl) ev_c (rv_ixQ h2 rfl)) (.inl ⟨by omega, by omega⟩)) rv_I0
theorem df_bounded (DWhole : Df P w K mg base CX0 "whole" 1 ["value"] (spWhole K)) (S : At K mg "bounded" sBounded ["number", "low", "high"]) : Df P w K mg base CX0 "bounded" 2 ["number", "low", "high"] (spBounded K) := by
  obtain ⟨f, fd, F, m, b⟩ := S
  refine ⟨f, fd, m, F.kp, b, F.ok scBounded (fun vs H Q E h => ?_) (fun cdv A outer s H vs Q E hr h => ?_)⟩
  · obtain ⟨x, d, lo, hi, rfl, _⟩ := h
    rfl
  obtain ⟨x, d, lo, hi, rfl, hd, q⟩ := h
  refine ⟨_, (pss_one (ps_ret (pe_and (pe_df DWhole hr pass0 (pa_cons (pv 0) pa_nil)) (pe_one (pe_chain op_le op_le (pv 1) (pv 0) (pv 2)))))), ?_⟩
  refine s_ret (v := .bl (boundedB d lo hi)) ?_ fun H1 e => q H1 e
  cases d with
  | int i =>
    cases hd
    exact ev_is (ev_andV (a := true) (ev_callV (ea_cons (ev_var rfl) ea_nil) (sv_whole (.int i))) fun _ => ev_chain (ev_var rfl) (ev_var rfl) (ev_var rfl)) rfl
  | _ => exact ev_is (ev_andV (b := false) (ev_callV (ea_cons (ev_var rfl) ea_nil) (sv_whole hd)) fun z => Bool.noConfusion (show false = true from z)) rfl
theorem factorsB_get : ∀ {l : List Py} {i : Nat} {d : Py}, l[i]? = some d → boundedB d (-99) 99 = false → factorsB l = false
  | [], i, d, h, _ => by simp at h
  | x :: r, 0, d, h, hb => by
    have e : x = d := by simpa using h
    subst e
    show (boundedB x (-99) 99 && factorsB r) = false
    rw [hb] <;> rfl
  | x :: r, i + 1, d, h, hb => by
    have e := factorsB_get (l := r) (i := i) (d := d) (by simpa using h) hb
    show (boundedB x (-99) 99 && factorsB r) = false
    rw [e, Bool.and_false]
theorem factorsB_all : ∀ {l : List Py}, (∀ (i : Nat) d, l[i]? = some d → boundedB d (-99) 99 = true) → factorsB l = true
  | [], _ => rfl
  | x :: r, h => by
    show (boundedB x (-99) 99 && factorsB r) = true
    rw [h 0 x rfl, factorsB_all (l := r) fun i d q => h (i + 1) d (by simpa using q)] <;> rfl
theorem df_rightIs {t8 t12 : Tok} {wd : Addr} {es : Array DictEntry} {n : Nat} (B : Bi mg) (M : Mc K w mg t8 t12 wd es n) (DBounded : Df P w K mg base CX0 "bounded" 2 ["number", "low", "high"] (spBounded K)) (S : At K mg "right_is" sRightIs ["claim"]) : Df P w K mg base CX0 "right_is" 3 ["claim"] (spRightIs K) := by
  obtain ⟨f, fd, F, m, b⟩ := S
  refine ⟨f, fd, m, F.kp, b, F.ok scRightIs (fun vs H Q E h => ?_) (fun cdv A outer s H vs Q E hr h => ?_)⟩
  · obtain ⟨p, x0, x1, x2, x3, d1, d2, d3, rfl, _⟩ := h
    rfl
  obtain ⟨p, x0, x1, x2, x3, d1, d2, d3, rfl, hp, h1, h2, h3, q⟩ := h
  refine ⟨_, (pss_cons (ps_par3 (i := 1) (j := 2) (l := 3) (by rfl) scRightIs.nd rfl rfl rfl (by decide) (by decide) (by decide) rfl rfl rfl (pa_cons (pe_ix ix_lt (pv 0) pe_int (fun _ _ => rfl)) (pa_cons (pe_ix ix_lt (pv 0) pe_int (fun _ _ => rfl)) (pa_cons (pe_ix ix_lt (pv 0) pe_int (fun _ _ => rfl)) pa_nil))) (by rfl))
  (pss_cons (ps_if (PW.pt (pw_or (pt_not (pt_val (pe_callB call_isiT rfl B.isinstance PyProof.Rows.boot_isinstance (pa_cons (pv 1) (pa_cons (pe_tup (pa_cons (pe_bltn (v := .ty "list") rfl B.list PyProof.Rows.boot_list rfl) (pa_cons (pe_bltn (v := .ty "tuple") rfl B.tuple PyProof.Rows.boot_tuple rfl) pa_nil))) pa_nil))))) (pw_or1 (pt_cmpR op_ne (pe_callB call_len_seq rfl B.len PySem.boot_len (pa_cons (pv 1) pa_nil)) pe_int (nomark _))))) (pss_one (ps_ret pe_bl)) pss_nil)
  (pss_cons (ps_for PassesOwn.never rfl (pi_lt (pv 1)) (pg_name (i := 4) scRightIs.nd rfl (Or.inl rfl)) (pss_one (ps_if (pt_not (pt_val (pe_df DBounded hr pass0 (pa_cons (pv 4) (pa_cons (pe_un un_neg pe_int) (pa_cons pe_int pa_nil)))))) (pss_one (ps_ret pe_bl)) pss_nil)))
  (pss_one (ps_ret (pe_and (pe_df DBounded hr pass0 (pa_cons (pv 3) (pa_cons pe_int (pa_cons (pe_glob (v := .int 12) rfl M.most ⟨_, rfl⟩) pa_nil)))) (pe_one (pe_df DBounded hr pass0 (pa_cons (pv 2) (pa_cons pe_int (pa_cons (pe_op op_sub (pv 3) pe_int) pa_nil))))))))))), ?_⟩
  refine q_par3 (ea_cons (ev_op (ev_var rfl) ev_c (rv_ixQ hp rfl)) (ea_cons (ev_op (ev_var rfl) ev_c (rv_ixQ hp rfl)) (ea_cons (ev_op (ev_var rfl) ev_c (rv_ixQ hp rfl)) ea_nil))) fun H1 e1 => ?_
  have back : ∀ {b : Bool} {H2 : Hp}, rightIs d1 d2 d3 = b → Ex H H2 → Q (.bl b) H2 := fun hb e => by
    rw [← hb]
    exact q _ e
  cases hs : d1.seq with
  | none =>
    refine q_when (b := true) (et_is (et_or (et_not (et_B (ev_isi2 (ev_var rfl) (h1.mo e1)))) (b := true) ?_) (by rw [hs] <;> rfl)) (fun _ H2 e2 => ?_) fun z => nomatch z
    · intro z
      rw [hs] at z
      exact nomatch (show true = false from z)
    · exact s_ret ev_c fun H3 e3 => back (by unfold rightIs; rw [hs]) ((e1.trans e2).trans e3)
  | some l =>
    obtain ⟨a, xs, rfl, hq, ha⟩ := (h1.mo e1).sq hs
    have hl := ha.length
    refine q_when (b := !decide (xs.length = 3)) (et_is (et_or (et_not (et_B (ev_isi2 (ev_var rfl) (h1.mo e1)))) fun _ => et_test (ev_op (ev_lenQ (ev_var rfl) hq) ev_c (rv_ne rfl))) ?_) (fun hb H2 e2 => ?_) fun hb H2 e2 => ?_
    · rw [hs]
      show (false || !decide (V.int (xs.length : Int) = V.int 3)) = !decide (xs.length = 3)
      rw [Bool.false_or]
      congr 1
      rw [decide_eq_decide]
      constructor
      · intro z
        have := V.int.inj z
        omega
      · intro z
        rw [z] <;> rfl
    · have hn : ¬ l.length = 3 := by
        rw [← hl]
        intro z
        rw [decide_eq_true z] at hb
        exact nomatch hb
      refine s_ret ev_c fun H3 e3 => back (b := false) ?_ ((e1.trans e2).trans e3)
      unfold rightIs
      rw [hs]
      exact if_neg hn
    · have hn : l.length = 3 := by
        rw [← hl]
        by_cases z : xs.length = 3
        · exact z
        · rw [decide_eq_false z] at hb
          exact nomatch hb
      have hr1 : rightIs d1 d2 d3 = (factorsB l && modB d2 d3) := by
        unfold rightIs
        rw [hs]
        exact if_pos hn
      refine q_forS (ev_var rfl) (hq.ex e2) (fun i σ' H' => ∃ o, σ' = [some (.ref p), some (.ref a), some x2, some x3, o] ∧ Ex H2 H' ∧ ∀ (j : Nat) d, j < i → l[j]? = some d → boundedB d (-99) 99 = true)
        (fun H3 e3 => ⟨none, rfl, e3, fun j d z => absurd z (Nat.not_lt_zero j)⟩) (fun i σ' H' _ h => h.choose_spec.2.1) ?_ ?_
      · rintro i x σ' H' hi ⟨o, rfl, e3, hall⟩
        obtain ⟨d, hd, hx⟩ := ha.getV hi
        have hx' := hx.mo (e2.trans e3)
        cases hbd : boundedB d (-99) 99 with
        | false =>
          refine s_when (b := true) (et_is (et_not (et_B (ev_callV (ea_cons (ev_var rfl) (ea_cons (ev_un ev_c ru_neg) (ea_cons ev_c ea_nil))) (sv_bounded hx')))) (by rw [hbd] <;> rfl)) (fun _ H4 e4 => ?_) fun z => nomatch z
          refine s_ret ev_c fun H5 e5 => back (b := false) ?_ ((((e1.trans e2).trans e3).trans e4).trans e5)
          rw [hr1, factorsB_get hd hbd] <;> rfl
        | true =>
          refine s_when (b := false) (et_is (et_not (et_B (ev_callV (ea_cons (ev_var rfl) (ea_cons (ev_un ev_c ru_neg) (ea_cons ev_c ea_nil))) (sv_bounded hx')))) (by rw [hbd] <;> rfl)) (fun z => nomatch z) fun _ H4 e4 => ?_
          refine ⟨some x, rfl, e3.trans e4, fun j d' hj hd' => ?_⟩
          by_cases z : j < i
          · exact hall j d' z hd'
          · have : j = i := by omega
            subst this
            rw [hd] at hd'
            cases hd'
            exact hbd
      · rintro σ' H' ⟨o, rfl, e3, hall⟩
        have hf : factorsB l = true := factorsB_all fun i d hd => hall i d (by rw [hl]; exact (List.getElem?_eq_some_iff.mp hd).1) hd
        rw [hf, Bool.true_and] at hr1
        refine s_ret (v := .bl (modB d2 d3)) ?_ fun H4 e4 => back hr1 (((e1.trans e2).trans e3).trans e4)
        have k2 := ((h2.mo e1).mo e2).mo e3
        have k3 := ((h3.mo e1).mo e2).mo e3
        have c1 := ev_callV (E := E0) (ea_cons (ev_var (σ := [some (V.ref p), some (.ref a), some x2, some x3, o]) (i := 3) rfl) (ea_cons (ev_c (v := .int 1)) (ea_cons (ev_c (v := .int 12)) ea_nil))) (sv_bounded k3)
        cases d3 with
        | int i =>
          cases k3
          exact ev_andV c1 fun _ => ev_callV (ea_cons (ev_var rfl) (ea_cons ev_c (ea_cons (ev_op (ev_var rfl) ev_c rv_I0) ea_nil))) (sv_bounded k2)
        | _ => exact ev_is (ev_andV (b := false) c1 fun z => Bool.noConfusion (show false = true from z)) rfl
end
end Kf

set_option Elab.async false
set_option linter.all false
set_option maxRecDepth 100000
set_option maxHeartbeats 4000000
namespace Kf
open PySem L2 Evl

def spCheckPart (K : PySem.W.Frag) (n : Nat) : Sp := fun vs H Q _ => ∃ x d c p ps, vs = [x, .ref p] ∧ Rp K H x d ∧ SqT K H p ps ∧ IsCl c d ∧ c.Ok ∧ c.depth + ps.length ≤ 8 ∧ c.depth ≤ n ∧ RetV .non H Q
def spCheckClaim (K : PySem.W.Frag) : Sp := fun vs H Q _ => ∃ x d c, vs = [x] ∧ Rp K H x d ∧ IsCl c d ∧ c.Ok ∧ c.depth ≤ 8 ∧ RetV .non H Q
def spCommon (K : PySem.W.Frag) (n : Nat) : Sp := fun vs H Q _ => ∃ x d c, vs = [x] ∧ Rp K H x d ∧ IsCl c d ∧ c.Ok ∧ c.depth ≤ n ∧ RetV (.int (c.many : Nat)) H Q
def spHoldsAt (K : PySem.W.Frag) (n : Nat) : Sp := fun vs H Q _ => ∃ v d c q x y z, vs = [v, .ref q] ∧ Rp K H v d ∧ Sq K H q [.int x, .int y, .int z] ∧ IsCl c d ∧ c.Ok ∧ c.depth ≤ n ∧ RetV (.bl (c.at x y z)) H Q
def spHolds (K : PySem.W.Frag) : Sp := fun vs H Q _ => ∃ v d c q x y z, vs = [v, .ref q] ∧ Rp K H v d ∧ Sq K H q [.int x, .int y, .int z] ∧ IsCl c d ∧ c.Ok ∧ c.depth ≤ 8 ∧ RetV (.bl (c.at x y z)) H Q

section
variable {P : Program} {w : World} {K : PySem.W.Frag} {mg : Str → Option Value} {base : Heap} {H H' : Hp} {σ : L2.St} {ta tb : TE} {D : Ends} {tu tz : TS} {g : TG}
theorem sv_checkClaim {x : V} {d : Py} {c : Cl} (h : Rp K H x d) (hc : IsCl c d) (ok : c.Ok) (hn : c.depth ≤ 8) : SpV (spCheckClaim K) [x] H .non := fun H1 e Q q E => ⟨x, d, c, rfl, h.mo e, hc, ok, hn, q⟩
theorem sv_common {x : V} {d : Py} {c : Cl} {n : Nat} (h : Rp K H x d) (hc : IsCl c d) (ok : c.Ok) (hn : c.depth ≤ n) : SpV (spCommon K n) [x] H (.int (c.many : Nat)) := fun H1 e Q q E => ⟨x, d, c, rfl, h.mo e, hc, ok, hn, q⟩
theorem sv_holdsAt {v : V} {d : Py} {c : Cl} {n : Nat} {q : Addr} {x y z : Int} (h : Rp K H v d) (hq : Sq K H q [.int x, .int y, .int z]) (hc : IsCl c d) (ok : c.Ok) (hn : c.depth ≤ n) : SpV (spHoldsAt K n) [v, .ref q] H (.bl (c.at x y z)) :=
  fun H1 e Q k E => ⟨v, d, c, q, x, y, z, rfl, h.mo e, hq.ex e, hc, ok, hn, k⟩
theorem sv_holds {v : V} {d : Py} {c : Cl} {q : Addr} {x y z : Int} (h : Rp K H v d) (hq : Sq K H q [.int x, .int y, .int z]) (hc : IsCl c d) (ok : c.Ok) (hn : c.depth ≤ 8) : SpV (spHolds K) [v, .ref q] H (.bl (c.at x y z)) :=
  fun H1 e Q k E => ⟨v, d, c, q, x, y, z, rfl, h.mo e, hq.ex e, hc, ok, hn, k⟩
/-- t + (e,), the sum told -/
theorem evp_catA {a : Addr} {xs ys : List V} (ha : Ev ta σ H (.ref a)) (hx : SqT K H a xs) (hb : EvU tb σ H ys) (hy : ys ≠ []) (hz : xs.length + ys.length ≤ 1000) : EvP (tOp (rCatA K) ta tb) σ H fun v H1 => ∃ p, v = .ref p ∧ SqT K H1 p (xs ++ ys) := fun H1 e Q q =>
  ha H1 e _ fun H2 e2 => hb H2 (e.trans e2) _ fun p H3 hp e3 h3 => ⟨a, p, xs, ys, rfl, rfl, ex_t ((e.trans e2).trans e3) hx, st_of h3, Nat.le_of_lt (small1000 hz),
    fun z => q _ H3 (e2.trans e3) ⟨p, rfl, by rw [z]; exact st_of h3⟩, fun _ z => absurd z hy, fun _ _ l hl => q _ _ ((e2.trans e3).trans (Ex.new hl)) ⟨l, rfl, st_of upd_same⟩⟩
/-- for x in e, e a list or a tuple made on the way -/
theorem q_forSP {xs : List V} {tl : TE} (h : EvP tl σ H fun v H1 => ∃ a, v = .ref a ∧ Sq K H1 a xs) (Pv : Hp → Nat → L2.St → Hp → Prop) (h0 : ∀ H1, Ex H H1 → Pv H1 0 σ H1) (hl : ∀ H1 i σ' H', i ≤ xs.length → Pv H1 i σ' H' → Ex H1 H')
    (hs : ∀ H1 i x σ' H', Ex H H1 → xs[i]? = some x → Pv H1 i σ' H' → g x σ' H' fun σ2 H2 => tu { D with nx := Pv H1 (i + 1), ct := Pv H1 (i + 1), bk := tz D } σ2 H2) (hd : ∀ H1 σ' H', Ex H H1 → Pv H1 xs.length σ' H' → tz D σ' H') : tSeq (tFor (iSeq K tl) g tu) tz D σ H :=
  h H (Ex.refl H) _ fun v H1 e ⟨a, ev, hx⟩ => by
    subst ev
    rcases hx with hx | hx
    · exact ⟨a, xs, rfl, .inl ⟨hx, for_list (D := { D with nx := tz D }) (Pv H1) (h0 H1 e) (fun i σ' H' hi p => ex_l (hl H1 i σ' H' hi p) hx) (fun i x σ' H' hi p => hs H1 i x σ' H' e hi p) (fun σ' H' p => hd H1 σ' H' e p)⟩⟩
    · exact ⟨a, xs, rfl, .inr ⟨hx, for_tup (D := { D with nx := tz D }) (Pv H1) (h0 H1 e) (fun i σ' H' hi p => ex_t (hl H1 i σ' H' hi p) hx) (fun i x σ' H' hi p => hs H1 i x σ' H' e hi p) (fun σ' H' p => hd H1 σ' H' e p)⟩⟩
theorem cut_tail (x : V) (xs : List V) : cutV (x :: xs) (some 1) none = xs := by
  have e1 : HT.sIx (x :: xs).length 0 (some 1) = 1 := by
    show HT.sIx (x :: xs).length 0 (some ((1 : Nat) : Int)) = 1
    rw [HT.sIx_nat]
    show min 1 (xs.length + 1) = 1
    omega
  unfold cutV
  rw [e1, HT.sIx_none]
  show (xs.take (xs.length + 1 - 1)) = xs
  rw [Nat.add_sub_cancel, List.take_length]
/-- e[1:] -/
theorem evp_tail {te : TE} {a : Addr} {x : V} {xs : List V} (h : Ev te σ H (.ref a)) (hx : Sq K H a (x :: xs)) :
    EvP (tSl (fun x lo hi H Q => rSlL K x lo hi H Q ∨ rSlT K x lo hi H Q) te (tPart (tC (.int 1))) tNoPart) σ H fun v H1 => ∃ p, v = .ref p ∧ Sq K H1 p xs := fun H1 e Q q =>
  h H1 e _ fun H2 e2 => ⟨1, rfl, by
    have hx2 := hx.ex (e.trans e2)
    rcases hx2 with hx2 | hx2
    · refine Or.inl ⟨a, _, rfl, hx2, fun p hp => ?_⟩
      rw [cut_tail]
      exact q _ _ (e2.trans (Ex.new hp)) ⟨p, rfl, .inl (sq_of upd_same)⟩
    · refine Or.inr ⟨a, _, rfl, hx2, fun z => ?_, fun p hp => ?_⟩
      · have e1 : HT.sIx (x :: xs).length 0 (some 1) = 1 := by
          show HT.sIx (x :: xs).length 0 (some ((1 : Nat) : Int)) = 1
          rw [HT.sIx_nat]
          show min 1 (xs.length + 1) = 1
          omega
        rw [e1] at z
        exact absurd z.1 (by decide)
      · rw [cut_tail]
        exact q _ _ (e2.trans (Ex.new hp)) ⟨p, rfl, .inr (st_of upd_same)⟩⟩
theorem ev_notKd {wd : Addr} {z : Str} {r : Option Value} (ha : Ev ta σ H (.str z)) (hr : PySem.W.nsIn K wd z = some r) :
    Ev (tOp (fun x y H Q => ∃ (z : Str) (r : Option Value), x = .str z ∧ y = .ref wd ∧ PySem.W.nsIn K wd z = some r ∧ Q (.bl (!r.isSome)) H) ta (tC (.ref wd))) σ H (.bl (!r.isSome)) :=
  ev_op ha ev_c fun H1 e Q q => ⟨z, r, rfl, rfl, hr, q H1 (Ex.refl H1)⟩
theorem ev_kd {wd : Addr} {z : Str} {k : Int} {t : Tok} (ha : Ev ta σ H (.str z)) (hr : PySem.W.nsIn K wd z = some (some (.int k t))) : Ev (tOp (rKd K wd) (tC (.ref wd)) ta) σ H (.int k) :=
  ev_op ev_c ha fun H1 e Q q => ⟨z, .int k t, .int k, rfl, rfl, hr, ⟨t, rfl⟩, q H1 (Ex.refl H1)⟩
theorem ev_lcm {a b : Nat} (ha : Ev ta σ H (.int a)) (hb : Ev tb σ H (.int b)) (h1 : a ≤ 100000) (h2 : b ≤ 100000) (h3 : a.lcm b ≤ 100000) : Ev (tCB rLcm (tCons ta (tCons tb tNil))) σ H (.int (a.lcm b : Nat)) := fun H1 e Q q =>
  ha H1 e _ fun H2 e2 => hb H2 (e.trans e2) _ fun H3 e3 => ⟨a, b, rfl, h1, h2, h3, q H3 (e2.trans e3)⟩
/-- a comparison of two texts, of an int -/
theorem ev_strEq {x y : Str} (ha : Ev ta σ H (.str x)) (hb : Ev tb σ H (.str y)) : Ev (tOp rEq ta tb) σ H (.bl (decide (x = y))) := ev_is (ev_op ha hb (rv_eq rfl)) (by
  congr 1
  rw [decide_eq_decide]
  exact ⟨fun z => V.str.inj z, fun z => by rw [z]⟩)
theorem ev_strNe {x y : Str} (ha : Ev ta σ H (.str x)) (hb : Ev tb σ H (.str y)) : Ev (tOp rNe ta tb) σ H (.bl (!decide (x = y))) := ev_is (ev_op ha hb (rv_ne rfl)) (by
  congr 2
  rw [decide_eq_decide]
  exact ⟨fun z => V.str.inj z, fun z => by rw [z]⟩)
theorem ev_intEq {x y : Int} (ha : Ev ta σ H (.int x)) (hb : Ev tb σ H (.int y)) : Ev (tOp rEq ta tb) σ H (.bl (decide (x = y))) := ev_is (ev_op ha hb (rv_eq rfl)) (by
  congr 1
  rw [decide_eq_decide]
  exact ⟨fun z => V.int.inj z, fun z => by rw [z]⟩)
theorem ev_intNe {x y : Int} (ha : Ev ta σ H (.int x)) (hb : Ev tb σ H (.int y)) : Ev (tOp rNe ta tb) σ H (.bl (!decide (x = y))) := ev_is (ev_op ha hb (rv_ne rfl)) (by
  congr 2
  rw [decide_eq_decide]
  exact ⟨fun z => V.int.inj z, fun z => by rw [z]⟩)

abbrev sCheckPart : Stmt := top 22
theorem scCheckPart : FnScope ["claim", "path", "index"] ["claim", "path"] (defScope sCheckPart) := ⟨rfl, rfl, rfl, by decide +kernel, rfl, by decide +kernel, by decide +kernel⟩
abbrev sCheckClaim : Stmt := top 23
theorem scCheckClaim : FnScope ["claim"] ["claim"] (defScope sCheckClaim) := ⟨rfl, rfl, rfl, by decide +kernel, rfl, by decide +kernel, by decide +kernel⟩
abbrev sCommonModulus : Stmt := top 24
theorem scCommonModulus : FnScope ["claim", "many", "part"] ["claim"] (defScope sCommonModulus) := ⟨rfl, rfl, rfl, by decide +kernel, rfl, by decide +kernel, by decide +kernel⟩
abbrev sHoldsAt : Stmt := top 26
theorem scHoldsAt : FnScope ["claim", "row", "word"] ["claim", "row"] (defScope sHoldsAt) := ⟨rfl, rfl, rfl, by decide +kernel, rfl, by decide +kernel, by decide +kernel⟩
abbrev sHolds : Stmt := top 27
theorem scHolds : FnScope ["claim", "row"] ["claim", "row"] (defScope sHolds) := ⟨rfl, rfl, rfl, by decide +kernel, rfl, by decide +kernel, by decide +kernel⟩
theorem Mc.arity {t8 t12 : Tok} {wd : Addr} {es : Array DictEntry} {n : Nat} (M : Mc K w mg t8 t12 wd es n) {z : Str} {k : Nat} (h : arity z = some k) : ∃ t, PySem.W.nsIn K wd z = some (some (.int k t)) := by
  unfold Kf.arity at h
  by_cases z1 : z = "is"
  · rw [if_pos z1] at h
    cases h
    rw [z1]
    exact M.k1
  rw [if_neg z1] at h
  by_cases z2 : z = "not"
  · rw [if_pos z2] at h
    cases h
    rw [z2]
    exact M.k2
  rw [if_neg z2] at h
  by_cases z3 : z = "and"
  · rw [if_pos z3] at h
    cases h
    rw [z3]
    exact M.k3
  rw [if_neg z3] at h
  by_cases z4 : z = "or"
  · rw [if_pos z4] at h
    cases h
    rw [z4]
    exact M.k4
  rw [if_neg z4] at h
  cases h
theorem df_rightShape {t8 t12 : Tok} {wd : Addr} {es : Array DictEntry} {n : Nat} (B : Bi mg) (M : Mc K w mg t8 t12 wd es n) (DRightIs : Df P w K mg base CX0 "right_is" 3 ["claim"] (spRightIs K)) (S : At K mg "right_shape" sRightShape ["claim", "path"]) :
    Df P w K mg base CX0 "right_shape" 4 ["claim", "path"] (spRightShape K) := by
  obtain ⟨f, fd, F, m, b⟩ := S
  refine ⟨f, fd, m, F.kp, b, F.ok scRightShape (fun vs H Q E h => ?_) (fun cdv A outer s H vs Q E hr h => ?_)⟩
  · obtain ⟨x, d, p, ps, rfl, _⟩ := h
    rfl
  obtain ⟨x, d, p, ps, rfl, hd, hp, q⟩ := h
  refine ⟨_, (pss_cons (ps_if (PW.pt (pw_or (pt_not (pt_val (pe_callB call_isiT rfl B.isinstance PyProof.Rows.boot_isinstance (pa_cons (pv 0) (pa_cons (pe_tup (pa_cons (pe_bltn (v := .ty "list") rfl B.list PyProof.Rows.boot_list rfl) (pa_cons (pe_bltn (v := .ty "tuple") rfl B.tuple PyProof.Rows.boot_tuple rfl) pa_nil))) pa_nil))))) (pw_or (pt_cmpR op_eq (pe_callB call_len_seq rfl B.len PySem.boot_len (pa_cons (pv 0) pa_nil)) pe_int (nomark _)) (pw_or1 (pt_cmpR op_ge (pe_callB call_len_seq rfl B.len PySem.boot_len (pa_cons (pv 1) pa_nil)) (pe_glob (v := .int 8) rfl M.deep ⟨_, rfl⟩) (nomark _)))))) (pss_one (ps_ret pe_bl)) pss_nil)
  (pss_cons (ps_set (i := 2) scRightShape.nd rfl (Or.inl rfl) (pe_ix ix_lt (pv 0) pe_int (fun _ _ => rfl)))
  (pss_cons (ps_if (PW.pt (pw_or (pt_not (pt_val (pe_callB call_isi rfl B.isinstance PyProof.Rows.boot_isinstance (pa_cons (pv 2) (pa_cons (pe_bltn (v := .ty "str") rfl B.str PyProof.Rows.boot_str rfl) pa_nil))))) (pw_or (pt_cmpR (op_notIn_kd M.D) (pv 2) (pe_glob (v := .ref wd) rfl M.words rfl) (by rfl)) (pw_or1 (pt_cmpR op_ne (pe_callB call_len_seq rfl B.len PySem.boot_len (pa_cons (pv 0) pa_nil)) (pe_ix (ix_kd M.D) (pe_glob (v := .ref wd) rfl M.words rfl) (pv 2) (fun _ _ => rfl)) (nomark _)))))) (pss_one (ps_ret pe_bl)) pss_nil)
  (pss_one (ps_ret (pe_or (pe_cmpR op_ne (pv 2) pe_str (nomark _)) (pe_one (pe_df DRightIs hr pass0 (pa_cons (pv 0) pa_nil))))))))), ?_⟩
  have back : ∀ {b : Bool} {H2 : Hp}, shapeB d ps.length = b → Ex H H2 → Q (.bl b) H2 := fun hb e => by
    rw [← hb]
    exact q _ e
  cases hs : d.seq with
  | none =>
    refine q_when (b := true) (et_is (et_or (et_not (et_B (ev_isi2 (ev_var rfl) hd))) (b := true) ?_) (by rw [hs] <;> rfl)) (fun _ H2 e2 => ?_) fun z => nomatch z
    · intro z
      rw [hs] at z
      exact nomatch (show true = false from z)
    · exact s_ret ev_c fun H3 e3 => back (by unfold shapeB; rw [hs]) (e2.trans e3)
  | some ds =>
    obtain ⟨a, xs, rfl, hq, ha⟩ := hd.sq hs
    have hl := ha.length
    have hsh : shapeB d ps.length = (decide (ps.length < 8) && rightB ds) := by unfold shapeB; rw [hs]
    refine q_when (b := decide (xs.length = 0) || decide (8 ≤ ps.length)) (et_is (et_or (et_not (et_B (ev_isi2 (ev_var rfl) hd))) fun _ => et_or (et_test (ev_intEq (ev_lenQ (ev_var rfl) hq) ev_c)) fun _ => et_test (ev_op (ev_lenQ (ev_var rfl) (Or.inr hp)) ev_c rv_I0)) ?_) (fun hb H2 e2 => ?_) fun hb H2 e2 => ?_
    · rw [hs]
      show (false || (decide ((xs.length : Int) = 0) || decide ((8 : Int) ≤ (ps.length : Int)))) = _
      rw [Bool.false_or]
      congr 1 <;> rw [decide_eq_decide] <;> omega
    · refine s_ret ev_c fun H3 e3 => back (b := false) ?_ (e2.trans e3)
      rw [hsh]
      by_cases z : ps.length < 8
      · have h0 : ds = [] := by
          have : xs.length = 0 := by
            rcases Bool.or_eq_true_iff.mp hb with k | k
            · exact of_decide_eq_true k
            · have := of_decide_eq_true k
              omega
          exact List.eq_nil_of_length_eq_zero (by omega)
        rw [h0, show rightB [] = false from rfl, Bool.and_false]
      · rw [decide_eq_false z, Bool.false_and]
    · have hb1 := Bool.or_eq_false_iff.mp hb
      have hn : ps.length < 8 := by
        have := of_decide_eq_false hb1.2
        omega
      rw [decide_eq_true hn, Bool.true_and] at hsh
      have hq2 := hq.ex e2
      cases ha with
      | nil => exact nomatch hb1.1
      | @cons x0 xs d0 ds a0 a1 =>
      have hl1 := a1.length
      refine q_asg (v := x0) (ev_op (ev_var rfl) ev_c (rv_ixQ hq2 (atI_zero _ _))) fun H3 e3 => ?_
      have hq3 := hq2.ex e3
      have k0 := (a0.mo e2).mo e3
      have noStr : isT_strB d0 = false → rightB (d0 :: ds) = false := fun z => by
        cases d0 <;> first | rfl | exact nomatch (show true = false from z)
      cases hk : isT_strB d0 with
      | false =>
        refine q_when (b := true) (et_is (et_or (et_not (et_B (ev_isi (ev_var rfl) k0 (isT_str' d0)))) (b := true) ?_) (by rw [hk] <;> rfl)) (fun _ H4 e4 => ?_) fun z => nomatch z
        · intro z
          rw [hk] at z
          exact nomatch (show true = false from z)
        · exact s_ret ev_c fun H5 e5 => back (hsh.trans (noStr hk)) (((e2.trans e3).trans e4).trans e5)
      | true =>
        obtain ⟨z, rfl⟩ : ∃ z, d0 = .str z := by
          cases d0 <;> first | exact ⟨_, rfl⟩ | exact nomatch (show false = true from hk)
        cases a0
        cases har : arity z with
        | none =>
          have hr0 : rightB (.str z :: ds) = false := if_neg (c := arity z = some (ds.length + 1)) (by rw [har]; exact fun k => nomatch k)
          refine q_when (b := true) (et_is (et_or (et_not (et_B (ev_isi (ev_var rfl) k0 (isT_str' _)))) fun _ => et_or (et_test (ev_notKd (ev_var rfl) (M.k5 z har))) (b := true) ?_) rfl) (fun _ H4 e4 => ?_) fun z => nomatch z
          · intro k
            exact nomatch (show true = false from k)
          · exact s_ret ev_c fun H5 e5 => back (hsh.trans hr0) (((e2.trans e3).trans e4).trans e5)
        | some k =>
          obtain ⟨t, ht⟩ := M.arity har
          refine q_when (b := !decide (xs.length + 1 = k)) (et_is (et_or (et_not (et_B (ev_isi (ev_var rfl) k0 (isT_str' _)))) fun _ => et_or (et_test (ev_notKd (ev_var rfl) ht)) fun _ => et_test (ev_intNe (ev_lenQ (ev_var rfl) hq3) (ev_kd (ev_var rfl) ht))) ?_) (fun hb2 H4 e4 => ?_) fun hb2 H4 e4 => ?_
          · show (false || (false || !decide ((((V.str z :: xs).length : Nat) : Int) = (k : Int)))) = _
            rw [Bool.false_or, Bool.false_or]
            congr 1
            rw [decide_eq_decide, List.length_cons]
            omega
          · have hk2 : ¬ arity z = some (ds.length + 1) := by
              intro y
              rw [har] at y
              have y2 := Option.some.inj y
              rw [decide_eq_true (show xs.length + 1 = k by omega)] at hb2
              exact nomatch hb2
            exact s_ret ev_c fun H5 e5 => back (hsh.trans (if_neg (c := arity z = some (ds.length + 1)) hk2)) (((e2.trans e3).trans e4).trans e5)
          · have hk2 : k = ds.length + 1 := by
              by_cases y : xs.length + 1 = k
              · omega
              · rw [decide_eq_false y] at hb2
                exact nomatch hb2
            rw [hk2] at har
            by_cases hz : z = "is"
            · subst hz
              have h3 : ds.length = 3 := by
                rw [arity_is] at har
                have := Option.some.inj har
                omega
              match ds, a1, h3 with
              | [e1, e2', e3'], .cons (v := v1) b1 (.cons (v := v2) b2 (.cons (v := v3) b3 .nil)), _ =>
                have hr3 : rightB [.str "is", e1, e2', e3'] = rightIs e1 e2' e3' := by
                  show (if arity "is" = some (([e1, e2', e3'] : List Py).length + 1) then (if ("is" : Str) = "is" then rightIs e1 e2' e3' else true) else false) = _
                  rw [if_pos (show arity "is" = some (([e1, e2', e3'] : List Py).length + 1) from har), if_pos rfl]
                refine s_ret (v := .bl (rightIs e1 e2' e3')) (ev_is (ev_orV (ev_strNe (ev_var rfl) ev_c) fun _ => ev_callV (ea_cons (ev_var rfl) ea_nil) (sv_rightIs (hq3.ex e4) ((((b1.mo e2).mo e3).mo e4)) ((((b2.mo e2).mo e3).mo e4)) ((((b3.mo e2).mo e3).mo e4)))) ?_) fun H5 e5 => back (hsh.trans hr3) (((e2.trans e3).trans e4).trans e5)
                rw [decide_eq_true rfl]
                show V.bl (false || _) = _
                rw [Bool.false_or]
            · refine s_ret (v := .bl true) (ev_is (ev_orV (b := true) (ev_strNe (ev_var rfl) ev_c) fun k => ?_) ?_) fun H5 e5 => back (hsh.trans (rightB_other har hz)) (((e2.trans e3).trans e4).trans e5)
              · rw [decide_eq_false hz] at k
                exact nomatch (show true = false from k)
              · rw [decide_eq_false hz] <;> rfl
end
end Kf

set_option Elab.async false
set_option linter.all false
set_option maxRecDepth 100000
set_option maxHeartbeats 4000000
namespace Kf
open PySem L2 Evl
section
variable {P : Program} {w : World} {K : PySem.W.Frag} {mg : Str → Option Value} {base : Heap}
theorem mem_of_get {α : Type} {l : List α} {i : Nat} {x : α} (h : l[i]? = some x) : x ∈ l := List.mem_of_getElem? h
/-- a def that asks what cannot be: nothing is owed -/
theorem df_none {name : Str} {st : Stmt} {ps : List Str} {sp : Sp} {k : Nat} (S : At K mg name st ps) (no : ∀ vs H Q E, ¬ sp vs H Q E) : Df P w K mg base CX0 name k ps sp := by
  obtain ⟨f, fd, F, m, b⟩ := S
  exact ⟨f, fd, m, F.kp, b, fun vs H Q E h => absurd h (no vs H Q E), fun A outer s H args us vs Q E _ _ _ _ h => absurd h (no vs H Q E)⟩
theorem df_checkPart (B : Bi mg) (DRightShape : Df P w K mg base CX0 "right_shape" 4 ["claim", "path"] (spRightShape K)) (S : At K mg "check_part" sCheckPart ["claim", "path"]) :
    ∀ n : Nat, Df P w K mg base CX0 "check_part" (n + 4) ["claim", "path"] (spCheckPart K n)
  | 0 => df_none S fun vs H Q E h => by
    obtain ⟨x, d, c, p, ps, _, _, _, _, _, _, h, _⟩ := h
    have := c.pos
    omega
  | n + 1 => by
    have DCheckPart := df_checkPart B DRightShape S n
    obtain ⟨f, fd, F, m, b⟩ := S
    refine ⟨f, fd, m, F.kp, b, F.ok scCheckPart (fun vs H Q E h => ?_) (fun cdv A outer s H vs Q E hr h => ?_)⟩
    · obtain ⟨x, d, c, p, ps, rfl, _⟩ := h
      rfl
    obtain ⟨x, d, c, p, ps, rfl, hd, hp, hc, ok, hn, hm, q⟩ := h
    refine ⟨_, (pss_cons (ps_if (pt_not (pt_val (pe_df DRightShape hr pass0 (pa_cons (pv 0) (pa_cons (pv 1) pa_nil))))) (pss_one ps_never) pss_nil)
  (pss_one (ps_if (pt_cmpR op_ne (pe_ix ix_lt (pv 0) pe_int (fun _ _ => rfl)) pe_str (nomark _)) (pss_one (ps_for PassesOwn.never rfl (pi_range2 rfl B.range (pa_cons pe_int (pa_cons (pe_callB call_len_seq rfl B.len PySem.boot_len (pa_cons (pv 0) pa_nil)) pa_nil))) (pg_name (i := 2) scCheckPart.nd rfl (Or.inl rfl)) (pss_one (ps_expr (pe_df DCheckPart hr pass0 (pa_cons (pe_ix ix_lt (pv 0) (pv 2) (fun _ _ => rfl)) (pa_cons (pe_op op_catA (pv 1) (pe_tup (pa_cons (pv 2) pa_nil))) pa_nil))))))) pss_nil))), ?_⟩
    have hpos := c.pos
    refine q_when (b := false) (et_is (et_not (et_B (ev_callV (ea_cons (ev_var rfl) (ea_cons (ev_var rfl) ea_nil)) (sv_rightShape hd hp)))) (by rw [shape_cl ok hc (by omega)] <;> rfl)) (fun z => nomatch z) fun _ H1 e1 => ?_
    by_cases hk : c.kids = []
    · cases c with
      | is f g h r m =>
        obtain ⟨a, b, rfl, hq, hb⟩ := leaf_of (hd.mo e1) hc
        exact s_when (b := false) (et_test (ev_is (ev_strNe (ev_op (ev_var rfl) ev_c (rv_ixQ hq (atI_zero _ _))) ev_c) (by rw [decide_eq_true rfl] <;> rfl))) (fun z => nomatch z) fun _ H2 e2 => q _ (e1.trans e2)
      | _ => exact nomatch hk
    · obtain ⟨a, xs, rfl, hq, hks⟩ := kids_of (hd.mo e1) hc hk
      refine s_when (b := true) (et_test (ev_is (ev_strNe (ev_op (ev_var rfl) ev_c (rv_ixQ hq (atI_zero _ _))) ev_c) (by rw [decide_eq_false (Cl.word_is hk)] <;> rfl))) (fun _ H2 e2 => ?_) fun z => nomatch z
      have hq2 := hq.ex e2
      have hlen : c.kids.length ≤ 2 := by cases c <;> first | exact Nat.zero_le 2 | exact Nat.le_succ 1 | exact Nat.le_refl 2
      have hxs := hks.1
      refine s_forR2 (lo := 1) (n := ((V.str c.word :: xs).length : Int)) (ea_cons ev_c (ea_cons (ev_lenQ (ev_var rfl) hq2) ea_nil)) (by rw [List.length_cons]; omega) (fun i σ' H' => ∃ o, σ' = [some (.ref a), some (.ref p), o] ∧ Ex H2 H')
        (fun H3 e3 => ⟨none, rfl, e3⟩) ?_ (fun σ' H' h => by
          obtain ⟨o, rfl, e3⟩ := h
          exact q _ ((e1.trans e2).trans e3))
      rintro i σ' H' hi ⟨o, rfl, e3⟩
      rw [List.length_cons] at hi
      have hix : i < xs.length := by omega
      obtain ⟨k, e, hk1, hk2, hk3⟩ := hks.2 i xs[i] (List.getElem?_eq_getElem hix)
      have kok := Cl.kid_ok (mem_of_get hk1) ok
      have hat : atI (V.str c.word :: xs) (1 + (i : Int)) = some xs[i] := by
        have e1 : (1 : Int) + (i : Int) = ((i + 1 : Nat) : Int) := by omega
        rw [e1]
        exact atI_nat (by rw [List.getElem?_cons_succ, List.getElem?_eq_getElem hix])
      have hp3 := ex_t ((e1.trans e2).trans e3) hp
      have hk2' := hk2.mo (e2.trans e3)
      refine s_dropP (P := fun v _ => v = .non) (evp_callP (R := fun vs H4 => ∃ p', vs = [xs[i], .ref p'] ∧ SqT K H4 p' (ps ++ [.int (1 + (i : Int))])) ?_ ?_) fun v H4 e4 _ => ⟨_, rfl, e3.trans e4⟩
      · refine eap_cons (P := fun v _ => v = xs[i]) (evp_ev (ev_op (ev_var rfl) (ev_var rfl) (rv_ixQ (hq2.ex e3) hat)) fun _ _ => rfl) fun v H4 e4 ev => ?_
        subst ev
        refine eap_cons (evp_catA (ev_var rfl) (ex_t e4 hp3) (eu_tup (ea_cons (ev_var rfl) ea_nil) (by show 1 ≤ 100000; decide)) (fun z => nomatch z) (by show ps.length + 1 ≤ 1000; omega)) fun v H5 e5 hv => ?_
        obtain ⟨p', rfl, hp'⟩ := hv
        exact fun H6 e6 Q' q' => q' [] H6 (Ex.refl H6) ⟨p', rfl, ex_t e6 hp'⟩
      · rintro vs H4 e4 ⟨p', rfl, hp'⟩ H5 e5 Q' q' E'
        refine ⟨xs[i], e, k, p', _, rfl, (hk2'.mo e4).mo e5, ex_t e5 hp', hk3, kok.1, ?_, by omega, fun H6 e6 => q' _ _ e6 rfl⟩
        rw [List.length_append]
        show k.depth + (ps.length + 1) ≤ 8
        omega
theorem df_checkClaim (DCheckPart : Df P w K mg base CX0 "check_part" 12 ["claim", "path"] (spCheckPart K 8)) (S : At K mg "check_claim" sCheckClaim ["claim"]) : Df P w K mg base CX0 "check_claim" 13 ["claim"] (spCheckClaim K) := by
  obtain ⟨f, fd, F, m, b⟩ := S
  refine ⟨f, fd, m, F.kp, b, F.ok scCheckClaim (fun vs H Q E h => ?_) (fun cdv A outer s H vs Q E hr h => ?_)⟩
  · obtain ⟨x, d, c, rfl, _⟩ := h
    rfl
  obtain ⟨x, d, c, rfl, hd, hc, ok, hn, q⟩ := h
  refine ⟨_, (pss_one (ps_expr (pe_df DCheckPart hr pass0 (pa_cons (pv 0) (pa_cons (pe_tup pa_nil) pa_nil))))), ?_⟩
  refine s_dropP (P := fun v _ => v = .non) (evp_callP (R := fun vs H4 => ∃ p', vs = [x, .ref p'] ∧ SqT K H4 p' []) ?_ ?_) fun v H4 e4 _ => q _ e4
  · refine eap_cons (P := fun v _ => v = x) (evp_ev (ev_var rfl) fun _ _ => rfl) fun v H4 e4 ev => ?_
    subst ev
    refine eap_cons (evp_U (P := fun v H5 => ∃ p', v = .ref p' ∧ SqT K H5 p' []) (eu_tup ea_nil (Nat.zero_le _)) fun p H5 e5 h5 => ⟨p, rfl, st_of h5⟩) fun v H5 e5 hv => ?_
    obtain ⟨p', rfl, hp'⟩ := hv
    exact fun H6 e6 Q' q' => q' [] H6 (Ex.refl H6) ⟨p', rfl, ex_t e6 hp'⟩
  · rintro vs H4 e4 ⟨p', rfl, hp'⟩ H5 e5 Q' q' E'
    exact ⟨x, d, c, p', [], rfl, (hd.mo e4).mo e5, ex_t e5 hp', hc, ok, hn, hn, fun H6 e6 => q' _ _ e6 rfl⟩
theorem df_common (B : Bi mg) (S : At K mg "common_modulus" sCommonModulus ["claim"]) : ∀ n : Nat, Df P w K mg base CX0 "common_modulus" n ["claim"] (spCommon K n)
  | 0 => df_none S fun vs H Q E h => by
    obtain ⟨x, d, c, _, _, _, _, h, _⟩ := h
    have := c.pos
    omega
  | n + 1 => by
    have DCommonModulus := df_common B S n
    obtain ⟨f, fd, F, m, b⟩ := S
    refine ⟨f, fd, m, F.kp, b, F.ok scCommonModulus (fun vs H Q E h => ?_) (fun cdv A outer s H vs Q E hr h => ?_)⟩
    · obtain ⟨x, d, c, rfl, _⟩ := h
      rfl
    obtain ⟨x, d, c, rfl, hd, hc, ok, hn, q⟩ := h
    refine ⟨_, (pss_cons (ps_if (pt_cmpR op_eq (pe_ix ix_lt (pv 0) pe_int (fun _ _ => rfl)) pe_str (nomark _)) (pss_one (ps_ret (pe_ix ix_lt (pv 0) pe_int (fun _ _ => rfl)))) pss_nil)
  (pss_cons (ps_set (i := 1) scCommonModulus.nd rfl (Or.inl rfl) pe_int)
  (pss_cons (ps_for PassesOwn.never rfl (pi_lt (pe_slice (SlR.or sl_list sl_tup) (pv 0) (po_some pe_int) po_none)) (pg_name (i := 2) scCommonModulus.nd rfl (Or.inl rfl)) (pss_one (ps_set (i := 1) scCommonModulus.nd rfl (Or.inl rfl) (pe_callBfun cr_lcm rfl B.lcm (pa_cons (pv 1) (pa_cons (pe_df DCommonModulus hr pass0 (pa_cons (pv 2) pa_nil)) pa_nil))))))
  (pss_one (ps_ret (pv 1)))))), ?_⟩
    by_cases hk : c.kids = []
    · cases c with
      | is f g h r m =>
        obtain ⟨a, b, rfl, hq, hb⟩ := leaf_of hd hc
        refine q_when (b := true) (et_test (ev_is (ev_strEq (ev_op (ev_var rfl) ev_c (rv_ixQ hq (atI_zero _ _))) ev_c) (by rw [decide_eq_true rfl]))) (fun _ H2 e2 => ?_) fun z => nomatch z
        refine s_ret (v := .int m) (ev_op (ev_var rfl) ev_c (rv_ixQ (hq.ex e2) rfl)) fun H3 e3 => ?_
        have k := q _ (e2.trans e3)
        have z : (((Cl.is f g h r m).many : Nat) : Int) = m := by
          show ((m.toNat : Nat) : Int) = m
          have := ok.m0
          omega
        rw [z] at k
        exact k
      | _ => exact nomatch hk
    · obtain ⟨a, xs, rfl, hq, hks⟩ := kids_of hd hc hk
      refine q_when (b := false) (et_test (ev_is (ev_strEq (ev_op (ev_var rfl) ev_c (rv_ixQ hq (atI_zero _ _))) ev_c) (by rw [decide_eq_false (Cl.word_is hk)]))) (fun z => nomatch z) fun _ H1 e1 => ?_
      refine q_asg ev_c fun H2 e2 => ?_
      have kidsOk : ∀ k ∈ c.kids, k.Ok := fun k hk => (Cl.kid_ok hk ok).1
      refine q_forSP (xs := xs) (evp_tail (ev_var rfl) ((hq.ex e1).ex e2)) (fun H3 i σ' H' => ∃ o, σ' = [some (.ref a), some (.int (lcmL (c.kids.take i) : Nat)), o] ∧ Ex H3 H') (fun H3 e3 => ⟨none, rfl, Ex.refl H3⟩) (fun H3 i σ' H' _ h => h.choose_spec.2) ?_ ?_
      · rintro H3 i x σ' H' e3 hi ⟨o, rfl, e4⟩
        obtain ⟨k, e, hk1, hk2, hk3⟩ := hks.2 i x hi
        have kok := Cl.kid_ok (mem_of_get hk1) ok
        have l1 : lcmL (c.kids.take i) ≤ 27720 := lcmL_le fun k hk => kidsOk k (List.mem_of_mem_take hk)
        have l2 : lcmL (c.kids.take (i + 1)) ≤ 27720 := lcmL_le fun k hk => kidsOk k (List.mem_of_mem_take hk)
        have l3 := lcmL_take hk1
        have l4 := Cl.le_many kok.1
        refine s_asg (v := .int (lcmL (c.kids.take (i + 1)) : Nat)) (ev_is (ev_lcm (ev_var rfl) (ev_callV (ea_cons (ev_var rfl) ea_nil) (sv_common ((((hk2.mo e1).mo e2).mo e3).mo e4) hk3 kok.1 (by omega))) (by omega) (by omega) (by omega)) (by rw [l3])) fun H5 e5 => ⟨some x, rfl, e4.trans e5⟩
      · rintro H3 σ' H' e3 ⟨o, rfl, e4⟩
        refine s_ret (ev_var rfl) fun H5 e5 => ?_
        have k := q _ ((((e1.trans e2).trans e3).trans e4).trans e5)
        rw [← lcmL_kids hk] at k
        rw [hks.1, List.take_length]
        exact k
theorem df_holdsAt (B : Bi mg) (DDot : Df P w K mg base CX0 "dot" 1 ["one", "two"] (spDot K)) (S : At K mg "holds_at" sHoldsAt ["claim", "row"]) : ∀ n : Nat, Df P w K mg base CX0 "holds_at" (n + 1) ["claim", "row"] (spHoldsAt K n)
  | 0 => df_none S fun vs H Q E h => by
    obtain ⟨v, d, c, q, x, y, z, _, _, _, _, _, h, _⟩ := h
    have := c.pos
    omega
  | n + 1 => by
    have DHoldsAt := df_holdsAt B DDot S n
    obtain ⟨f, fd, F, m, b⟩ := S
    refine ⟨f, fd, m, F.kp, b, F.ok scHoldsAt (fun vs H Q E h => ?_) (fun cdv A outer s H vs Q E hr h => ?_)⟩
    · obtain ⟨v, d, c, q, x, y, z, rfl, _⟩ := h
      rfl
    obtain ⟨v, d, c, qr, x, y, z, rfl, hd, hrow, hc, ok, hn, q⟩ := h
    refine ⟨_, (pss_cons (ps_set (i := 2) scHoldsAt.nd rfl (Or.inl rfl) (pe_ix ix_lt (pv 0) pe_int (fun _ _ => rfl)))
  (pss_cons (ps_if (pt_cmpR op_eq (pv 2) pe_str (nomark _)) (pss_one (ps_ret (pe_cmpR op_eq (pe_op op_mod (pe_callTy call_int1 rfl B.int PyProof.Rows.boot_int (pa_cons (pe_df DDot hr pass0 (pa_cons (pe_ix ix_lt (pv 0) pe_int (fun _ _ => rfl)) (pa_cons (pv 1) pa_nil))) pa_nil)) (pe_ix ix_lt (pv 0) pe_int (fun _ _ => rfl))) (pe_ix ix_lt (pv 0) pe_int (fun _ _ => rfl)) (nomark _)))) pss_nil)
  (pss_cons (ps_if (pt_cmpR op_eq (pv 2) pe_str (nomark _)) (pss_one (ps_ret (pe_not (pe_df DHoldsAt hr pass0 (pa_cons (pe_ix ix_lt (pv 0) pe_int (fun _ _ => rfl)) (pa_cons (pv 1) pa_nil)))))) pss_nil)
  (pss_cons (ps_if (pt_cmpR op_eq (pv 2) pe_str (nomark _)) (pss_one (ps_ret (pe_and (pe_df DHoldsAt hr pass0 (pa_cons (pe_ix ix_lt (pv 0) pe_int (fun _ _ => rfl)) (pa_cons (pv 1) pa_nil))) (pe_one (pe_df DHoldsAt hr pass0 (pa_cons (pe_ix ix_lt (pv 0) pe_int (fun _ _ => rfl)) (pa_cons (pv 1) pa_nil))))))) pss_nil)
  (pss_one (ps_ret (pe_or (pe_df DHoldsAt hr pass0 (pa_cons (pe_ix ix_lt (pv 0) pe_int (fun _ _ => rfl)) (pa_cons (pv 1) pa_nil))) (pe_one (pe_df DHoldsAt hr pass0 (pa_cons (pe_ix ix_lt (pv 0) pe_int (fun _ _ => rfl)) (pa_cons (pv 1) pa_nil))))))))))), ?_⟩
    cases c with
    | is f g h r m =>
      obtain ⟨a, b, rfl, hq, hb⟩ := leaf_of hd hc
      refine q_asg (v := .str "is") (ev_op (ev_var rfl) ev_c (rv_ixQ hq rfl)) fun H1 e1 => ?_
      refine q_when (b := true) (et_test (ev_is (ev_strEq (ev_var rfl) ev_c) (by rw [decide_eq_true rfl]))) (fun _ H2 e2 => ?_) fun z => nomatch z
      have e12 := e1.trans e2
      refine s_ret (ev_intEq (ev_mod (ev_int (ev_callV (ea_cons (ev_op (ev_var rfl) ev_c (rv_ixQ (hq.ex e12) rfl)) (ea_cons (ev_var rfl) ea_nil)) (sv_dot (hb.ex e12) (hrow.ex e12) ok.f0 ok.g0 ok.h0))) (ev_op (ev_var rfl) ev_c (rv_ixQ (hq.ex e12) rfl)) (by have := ok.m0; omega))
        (ev_op (ev_var rfl) ev_c (rv_ixQ (hq.ex e12) rfl))) fun H3 e3 => q _ (e12.trans e3)
    | not c =>
      obtain ⟨a, xs, rfl, hq, hks⟩ := kids_of hd hc (fun z => nomatch z)
      have hdep : c.depth + 1 ≤ n + 1 := hn
      match xs, hks with
      | [u], hks =>
        obtain ⟨k, e, hk1, hk2, hk3⟩ := hks.2 0 u rfl
        cases (Option.some.inj hk1)
        refine q_asg (v := .str "not") (ev_op (ev_var rfl) ev_c (rv_ixQ hq rfl)) fun H1 e1 => ?_
        refine q_when (b := false) (et_test (ev_is (ev_strEq (ev_var rfl) ev_c) (by decide +kernel))) (fun z => nomatch z) fun _ H2 e2 => ?_
        refine q_when (b := true) (et_test (ev_is (ev_strEq (ev_var rfl) ev_c) (by decide +kernel))) (fun _ H3 e3 => ?_) fun z => nomatch z
        have ee := (e1.trans e2).trans e3
        exact s_ret (ev_notV (ev_callV (ea_cons (ev_op (ev_var rfl) ev_c (rv_ixQ (hq.ex ee) rfl)) (ea_cons (ev_var rfl) ea_nil)) (sv_holdsAt (hk2.mo ee) (hrow.ex ee) hk3 ok (by omega)))) fun H4 e4 => q _ (ee.trans e4)
    | and c1 c2 =>
      obtain ⟨a, xs, rfl, hq, hks⟩ := kids_of hd hc (fun z => nomatch z)
      have hdep : max c1.depth c2.depth + 1 ≤ n + 1 := hn
      match xs, hks with
      | [u1, u2], hks =>
        obtain ⟨k, e, hk1, hk2, hk3⟩ := hks.2 0 u1 rfl
        cases (Option.some.inj hk1)
        obtain ⟨k', e', hk1', hk2', hk3'⟩ := hks.2 1 u2 rfl
        cases (Option.some.inj hk1')
        refine q_asg (v := .str "and") (ev_op (ev_var rfl) ev_c (rv_ixQ hq rfl)) fun H1 e1 => ?_
        refine q_when (b := false) (et_test (ev_is (ev_strEq (ev_var rfl) ev_c) (by decide +kernel))) (fun z => nomatch z) fun _ H2 e2 => ?_
        refine q_when (b := false) (et_test (ev_is (ev_strEq (ev_var rfl) ev_c) (by decide +kernel))) (fun z => nomatch z) fun _ H3 e3 => ?_
        refine q_when (b := true) (et_test (ev_is (ev_strEq (ev_var rfl) ev_c) (by decide +kernel))) (fun _ H4 e4 => ?_) fun z => nomatch z
        have ee := ((e1.trans e2).trans e3).trans e4
        exact s_ret (ev_andV (ev_callV (ea_cons (ev_op (ev_var rfl) ev_c (rv_ixQ (hq.ex ee) rfl)) (ea_cons (ev_var rfl) ea_nil)) (sv_holdsAt (hk2.mo ee) (hrow.ex ee) hk3 ok.1 (by omega))) fun _ =>
          ev_callV (ea_cons (ev_op (ev_var rfl) ev_c (rv_ixQ (hq.ex ee) rfl)) (ea_cons (ev_var rfl) ea_nil)) (sv_holdsAt (hk2'.mo ee) (hrow.ex ee) hk3' ok.2 (by omega))) fun H5 e5 => q _ (ee.trans e5)
    | or c1 c2 =>
      obtain ⟨a, xs, rfl, hq, hks⟩ := kids_of hd hc (fun z => nomatch z)
      have hdep : max c1.depth c2.depth + 1 ≤ n + 1 := hn
      match xs, hks with
      | [u1, u2], hks =>
        obtain ⟨k, e, hk1, hk2, hk3⟩ := hks.2 0 u1 rfl
        cases (Option.some.inj hk1)
        obtain ⟨k', e', hk1', hk2', hk3'⟩ := hks.2 1 u2 rfl
        cases (Option.some.inj hk1')
        refine q_asg (v := .str "or") (ev_op (ev_var rfl) ev_c (rv_ixQ hq rfl)) fun H1 e1 => ?_
        refine q_when (b := false) (et_test (ev_is (ev_strEq (ev_var rfl) ev_c) (by decide +kernel))) (fun z => nomatch z) fun _ H2 e2 => ?_
        refine q_when (b := false) (et_test (ev_is (ev_strEq (ev_var rfl) ev_c) (by decide +kernel))) (fun z => nomatch z) fun _ H3 e3 => ?_
        refine q_when (b := false) (et_test (ev_is (ev_strEq (ev_var rfl) ev_c) (by decide +kernel))) (fun z => nomatch z) fun _ H4 e4 => ?_
        have ee := ((e1.trans e2).trans e3).trans e4
        exact s_ret (ev_orV (ev_callV (ea_cons (ev_op (ev_var rfl) ev_c (rv_ixQ (hq.ex ee) rfl)) (ea_cons (ev_var rfl) ea_nil)) (sv_holdsAt (hk2.mo ee) (hrow.ex ee) hk3 ok.1 (by omega))) fun _ =>
          ev_callV (ea_cons (ev_op (ev_var rfl) ev_c (rv_ixQ (hq.ex ee) rfl)) (ea_cons (ev_var rfl) ea_nil)) (sv_holdsAt (hk2'.mo ee) (hrow.ex ee) hk3' ok.2 (by omega))) fun H5 e5 => q _ (ee.trans e5)
theorem df_holds (DCheckClaim : Df P w K mg base CX0 "check_claim" 13 ["claim"] (spCheckClaim K)) (DHoldsAt : Df P w K mg base CX0 "holds_at" 9 ["claim", "row"] (spHoldsAt K 8)) (S : At K mg "holds" sHolds ["claim", "row"]) : Df P w K mg base CX0 "holds" 14 ["claim", "row"] (spHolds K) := by
  obtain ⟨f, fd, F, m, b⟩ := S
  refine ⟨f, fd, m, F.kp, b, F.ok scHolds (fun vs H Q E h => ?_) (fun cdv A outer s H vs Q E hr h => ?_)⟩
  · obtain ⟨v, d, c, q, x, y, z, rfl, _⟩ := h
    rfl
  obtain ⟨v, d, c, qr, x, y, z, rfl, hd, hrow, hc, ok, hn, q⟩ := h
  refine ⟨_, (pss_cons (ps_expr (pe_df DCheckClaim hr pass0 (pa_cons (pv 0) pa_nil)))
  (pss_one (ps_ret (pe_df DHoldsAt hr pass0 (pa_cons (pv 0) (pa_cons (pv 1) pa_nil)))))), ?_⟩
  refine q_drop (ev_callV (ea_cons (ev_var rfl) ea_nil) (sv_checkClaim hd hc ok hn)) fun H1 e1 => ?_
  exact s_ret (ev_callV (ea_cons (ev_var rfl) (ea_cons (ev_var rfl) ea_nil)) (sv_holdsAt (hd.mo e1) (hrow.ex e1) hc ok hn)) fun H2 e2 => q _ (e1.trans e2)
end
end Kf

set_option Elab.async false
set_option linter.all false
set_option maxRecDepth 100000
set_option maxHeartbeats 4000000
namespace Kf
open PySem L2 Evl

/-! ### own exceptions with one field, raised, caught, read -/
/-- an exception class of the text, C, with its __init__ at fI -/
structure Xc (K : PySem.W.Frag) (mg : Str → Option Value) (name fld : Str) (C fI : Addr) : Prop where
  gC : mg name = some (.ref C)
  T : OexC K C
  iC : PySem.W.findIn K (.ref C) "__init__" = some (some (.ref fI))
  tI : PySem.W.typeIn K (.ref fI) = some (.type "function")
  noF : PySem.W.findIn K (.ref C) fld = some none
  ga : PySem.W.findIn K (.ref C) "__getattribute__" = some (some (.builtin "BaseException.__getattribute__"))
  gg : PySem.W.findIn K (.ref C) "__getattr__" = some none
  hd : PySem.W.hasDictIn K C = true
  ha : PySem.W.findIn K (.ref C) "__class__" = some (some (.builtin "object.__class__"))
  hn : PySem.W.specialIn K (.builtin "object.__class__") "__get__" = some (some (.builtin "getset_descriptor.__get__"))
  ht : PySem.W.takesIn K (.builtin "object.__class__") = some true
  hm : PySem.W.mroIn K C (.type "object") = some true
  te : PySem.W.exmOne K (.ref C) (.ref C) = some true
theorem Xc.xf {K : PySem.W.Frag} {mg : Str → Option Value} {name fld : Str} {C fI : Addr} (x : Xc K mg name fld C fI) : XfC K C := ⟨x.ga, x.gg, x.T.exC, x.hd⟩
/-- __init__(self, v): the field is v -/
def spInit (K : PySem.W.Frag) (C : Addr) (fld : Str) : Sp := fun vs H Q _ => ∃ (a : Addr) (v : V), vs = [.ref a, v] ∧ H a = some (exo a C none) ∧ OexC K C ∧ PySem.W.findIn K (.ref C) fld = some none ∧
  ∀ d, H d = none → d ≠ a → Q .non (upd (upd H d (exd d [(fld, v)])) a (exo a C (some d)))
section
variable {P : Program} {w : World} {K : PySem.W.Frag} {mg : Str → Option Value} {base : Heap}
theorem fn_raiseN {x qual : Str} {st : Stmt} {f : Addr} {fd : FuncData} {N ps : List Str} {k : Nat} {sp : Sp} (F : Fun K x qual st f fd) (S : FnScope N ps (defScope st)) (len : ∀ vs H Q E, sp vs H Q E → vs.length = ps.length)
    (hbody : ∀ (cdv : Value) (A : Around) (outer : List Env) (s : Shared) (H : Hp) (vs : List V) (Q : VK) (E : XK), Room k (A.deeper (PyProof.Rows.envOfC qual (defScope st) s.heap.objs.size f cdv)) → sp vs H Q E →
      ∃ t, PSs (cxOf (L2N.CX P w) P w K mg base N qual (defScope st) f cdv A outer s H E) (defBody st) t ∧ t { nx := fun _ H' => Q .non H', rt := Q } (L2.start N vs) H) :
    FnOk P w K mg base (L2N.CX P w) (k + 1) f fd ps sp := by
  obtain ⟨oc, od, kV, doc, pm, an, cdv, ct, osl, rfl, lk, hcd⟩ := F.ex
  exact fn_of lk hcd S len fun A outer s H vs Q E hr h => hbody cdv A outer s H vs Q E hr h
theorem fn_hot {x qual : Str} {st : Stmt} {f : Addr} {fd : FuncData} {N ps : List Str} {k : Nat} {sp : Sp} {CX : CXT} (F : Fun K x qual st f fd) (S : FnScope N ps (defScope st)) (len : ∀ vs H Q E, sp vs H Q E → vs.length = ps.length)
    (hbody : ∀ (cdv : Value) (A : Around) (outer : List Env) (s : Shared) (H : Hp) (vs : List V) (Q : VK) (E : XK) (p : Addr × Obj), L2H.Hot1 A p → sp vs H Q E →
      ∃ t, PSs (L2H.cxH CX P w K mg base N qual (defScope st) f cdv A outer s H E p) (defBody st) t ∧ t { nx := fun _ H' => Q .non H', rt := Q } (L2.start N vs) H) : L2H.FnH P w K mg base CX (k + 1) f fd ps sp := by
  obtain ⟨oc, od, kV, doc, pm, an, cdv, ct, osl, rfl, lk, hcd⟩ := F.ex
  exact L2H.fn_ofH lk hcd S len fun A outer s H vs Q E p hot _ h => hbody cdv A outer s H vs Q E p hot h
end
section
variable {X : Cx} {CX : CXT} {x : Str} {e : Expr} {es : List Expr} {ta : TA} {p pos : Pos} {C fI : Addr} {k : Nat} {fd : FuncData} {ps : List Str} {sp : Sp}
/-- C(e, ..), its context none -/
theorem mk_exc (T : OexC X.K C) (iC : PySem.W.findIn X.K (.ref C) "__init__" = some (some (.ref fI))) (tI : PySem.W.typeIn X.K (.ref fI) = some (.type "function")) (G : FnOk X.prog X.w X.K X.mg X.base CX k fI fd ps sp) (hr : Room (k + 1) X.A) (hb : Binds X.K fd ps [])
    (hx : Passes CX X (fun _ _ _ => False)) (hg : Gl X x) (hm : X.mg x = some (.ref C)) (ha : PA X (e :: es) ta) (hdb : (x == ("__debug__" : Str)) = false := by decide)
    (he : starEach (e :: es) X.env = (false, eval e X.env) :: starEach es X.env := by rfl) (hpl : (backTo pos (starEach es X.env)).any (·.1) = false := by rfl) : L2N.PMk X (.Call (.Name x p) (e :: es) [] pos) (tMkO C sp [] ta) := by
  intro pins s σ H Q I h
  obtain ⟨nm, q, N, bs, bm, sn, sub, ab, col, dd, k0, k1, k2, k3, k5, cC, cM⟩ := T.cls
  refine wpAny_Call_Name_kw (ld_glob I hg hm (PySem.W.callWith_K (h₀ := X.base) I.ok.mod.kin T.kC (thn (ha.run pos pins s σ H _ I h) fun us s1 hh => ?_) he hpl) hdb)
  obtain ⟨vs, H1, I1, r1, hz, q1⟩ := hh
  refine ⟨I1.kIn, ?_⟩
  obtain ⟨hp, g, dr, tk, os⟩ := s1
  show wpAny _ _ (call (.ref C) us) _ _ _
  have up : hp.objs.size ≤ hp.objs.size + 1 := Nat.le_succ _
  have nx := I1.hok.fresh up
  have hq := q1 (hp.objs.size + 1) nx
  rw [List.append_nil] at hq
  have kk : ∀ b o, hp.get? b = some o → ((hp.push (PySem.W.kdv_tup us)).push (PySem.HandSPX.excO C hp.objs.size)).get? b = some o := fun _ _ z => Heap.get?_push_of_some _ (Heap.get?_push_of_some _ z)
  have ge0 : ((hp.push (PySem.W.kdv_tup us)).push (PySem.HandSPX.excO C hp.objs.size)).get? (hp.objs.size + 1) = some (PySem.HandSPX.excO C hp.objs.size) := by heap_get
  have I2 : Inv X pins σ (upd H1 (hp.objs.size + 1) (exo (hp.objs.size + 1) C none)) ⟨(hp.push (PySem.W.kdv_tup us)).push (PySem.HandSPX.excO C hp.objs.size), g, dr, tk, os⟩ :=
    I1.laid (t' := tk) (h' := (hp.push (PySem.W.kdv_tup us)).push (PySem.HandSPX.excO C hp.objs.size)) (o := exo (hp.objs.size + 1) C none) (a := hp.objs.size + 1) kk up (exo_ok ge0)
  have r2 : Vals (V.ref (hp.objs.size + 1) :: vs) (Value.ref (hp.objs.size + 1) :: us) := .cons rfl r1
  have hl : (Value.ref (hp.objs.size + 1) :: us ++ []).length = ps.length := by
    rw [List.append_nil, ← r2.length]
    exact G.len _ _ _ _ hq
  have hus : us.length ≤ sizeLine := by
    rw [← Paired.length r1, sizeLine_eq]
    omega
  have b2 := hb _ (Value.ref (hp.objs.size + 1) :: us) I2.kIn hl
  rw [List.append_nil] at b2
  refine wpAny_call (PySem.HandSPX.call_own F.excBase_ValueError (fun Y => PySem.HandSPX.refsVE_contains Y bm cM) (I1.kIn _ _ cC) (PySem.W.looks_findIn I1.kIn iC) (fun self => PySem.W.bind_fn I1.kIn self tI) hus ?_)
  refine codeAny_mono (G.run _ X.stack _ _ ⟨Value.ref (hp.objs.size + 1) :: us, []⟩ _ _ _ (fun _ _ _ => False) (hr.make C us []) (I2.env0.make C us []) b2 r2 hq) fun r s' hq' => ?_
  cases r with
  | error er => exact hx pins σ _ _ er s' I2 hq'
  | ok fl =>
    cases fl with
    | ret u =>
      obtain ⟨v, H2, os2, bare2, un2, hok2, rv, ev, d, fs, ea, ed, hd1, q2⟩ := hq'
      subst ev
      obtain ⟨h2, g2, d2, t2, os'⟩ := s'
      obtain ⟨t0, G0, J, kG, gn, hoe, na⟩ := mk_end0 (d2 := d2) (t2 := t2) I1 up kk un2 hok2 os2 bare2 ea ed hd1
      exact ⟨rv, hp.objs.size + 1, _, _, ⟨G0, g2, d2, t2, os'⟩, _, .ref C, some d, rfl, J, kG, gn, hoe, ⟨rfl, rfl, fun vs hv => by cases hv; rfl⟩, rfl, rfl, na, rfl, bare2, raises_own T.exC T.tyC, q2⟩
    | _ => exact False.elim hq'
end
section
variable {X : Cx} {a C dd fI : Addr} {oe : Obj} {pn : List (Addr × Obj)} {name fld : Str}
/-- isinstance(e, c), e the caught exception -/
def rIsX (K : PySem.W.Frag) (C a : Addr) (cls : Value) (d : Option Addr) : List V → Hp → VK → Prop := fun xs H Q => ∃ (c : V) (cv : Value) (b : Bool) (dd : Addr) (fs : List (Str × V)), xs = [.ref a, c] ∧ (∀ u, RelV c u → u = cv) ∧ cls = .ref C ∧ d = some dd ∧
  PySem.W.kitOne K (.ref C) cv = some b ∧ H dd = some (.xd fs) ∧ Q (.bl b) H
theorem call_isX {cls : Value} {d : Option Addr} (T : Xc X.K X.mg name fld C fI) (hz : Zc cls d oe) (hf : ∃ vs, oe.data = .fields vs) : CallR (X.suite a ((a, oe) :: pn)) (.builtin "isinstance") (rIsX X.K C a cls d) := by
  intro pins s σ H xs us Q I r h
  obtain ⟨c, cv, b, dd, fs, rfl, hcv, rfl, rfl, e, hd, q⟩ := h
  obtain ⟨u1, u2, rfl, r1, r2⟩ := vals2 r
  cases (show u1 = Value.ref a from r1)
  obtain rfl := hcv _ r2
  obtain ⟨hget, _⟩ := I.pin (a, oe) (List.mem_append_left _ List.mem_cons_self)
  obtain ⟨vs, hv⟩ := hf
  obtain ⟨mA, hns, _⟩ := (show ObjOk X.prog X.w H s.heap dd (.xd fs) from I.hok dd _ hd)
  obtain ⟨od, ho, _⟩ := lookIn_ns hns
  have J : PySem.W.InstAt s.heap a oe C (some od) := ⟨hget, hz.1, by unfold PySem.W.notCls; rw [hv] <;> rfl, by rw [hz.2]; exact ho⟩
  have cs : (PySem.W.clsIn X.K C).isSome = true := by
    obtain ⟨nm, q, N, bs, bm, sn, sub, ab, col, dd, k0, k1, k2, k3, k5, cC, _⟩ := T.T.cls
    unfold PySem.W.clsIn
    rw [cC] <;> rfl
  exact PySem.W.kia_one (PySem.W.kitx_exc cs T.ga T.gg T.T.exC T.ha T.hn T.ht T.hm) I.kIn J e (fun z => nomatch z) fun tk => ⟨.bl b, H, I.kept (t' := tk) fun _ _ z => z, rfl, q⟩
/-- the suite's own context -/
theorem hot_of {cls : Value} {d : Option Addr} (hz : L2N.Zn cls d oe) (hf : ∃ vs, oe.data = .fields vs) : L2H.HotC (X.suite a ((a, oe) :: pn)) := by
  obtain ⟨vs, hv⟩ := hf
  exact ⟨(a, oe), ⟨rfl, vs, hv, hz.2.2 vs hv⟩, List.mem_cons_self⟩
theorem takesN {X : Cx} : L2N.Takes X (fun _ _ _ _ => False) := fun _ _ ⟨_, _, _, _, _, _, _, _, _, _, _, _, _, _, _, _, w⟩ => w.elim
end
/-- a def called where an exception is handled -/
structure DfH (P : Program) (w : World) (K : PySem.W.Frag) (mg : Str → Option Value) (base : Heap) (name : Str) (k : Nat) (ps : List Str) (sp : Sp) : Prop where
  ex : ∃ (f : Addr) (fd : FuncData), mg name = some (.ref f) ∧ PySem.W.keepIn K (.ref f) = true ∧ Binds K fd ps [] ∧ L2H.FnH P w K mg base CX0 k f fd ps sp
section
variable {X : Cx} {name : Str} {j k : Nat} {ps : List Str} {sp : Sp} {e : Expr} {es : List Expr} {t : TA} {p pos : Pos}
theorem pe_dfH (D : DfH X.prog X.w X.K X.mg X.base name j ps sp) (hr : L2H.RoomH k X.A) (hc : L2H.HotC X) (ha : PA X (e :: es) t) (hj : j ≤ k := by omega) (hg : Gl X name := by rfl) (hdb : (name == ("__debug__" : Str)) = false := by decide)
    (he : starEach (e :: es) X.env = (false, eval e X.env) :: starEach es X.env := by rfl) (hpl : (backTo pos (starEach es X.env)).any (·.1) = false := by rfl) : PE X (.Call (.Name name p) (e :: es) [] pos) (tCallS sp (fun _ => E0) t) := by
  obtain ⟨f, fd, a, b, c, d⟩ := D.ex
  exact L2H.pe_callH d (hr.mono hj) hc hg a b c (fun σ _ _ _ _ _ _ z => z.elim) ha hdb he hpl
theorem pe_dfS {CX : CXT} {E : L2.St → XK} (D : Df X.prog X.w X.K X.mg X.base CX name j ps sp) (hr : Room k X.A) (hx : ∀ σ, PassesAt CX X σ (E σ)) (ha : PA X (e :: es) t) (hj : j ≤ k := by omega) (hg : Gl X name := by rfl) (hdb : (name == ("__debug__" : Str)) = false := by decide)
    (he : starEach (e :: es) X.env = (false, eval e X.env) :: starEach es X.env := by rfl) (hpl : (backTo pos (starEach es X.env)).any (·.1) = false := by rfl) : PE X (.Call (.Name name p) (e :: es) [] pos) (tCallS sp E t) := by
  obtain ⟨f, fd, a, b, c, d⟩ := D.ex
  exact pe_callS d (hr.mono hj) hg a b c hx ha hdb he hpl
end
end Kf

set_option Elab.async false
set_option linter.all false
set_option maxRecDepth 100000
set_option maxHeartbeats 4000000
namespace Kf
open PySem L2 Evl
local macro_rules | `(tactic| walk_at "side") => `(tactic| first | assumption | omega | exact Or.inl ⟨by omega, by omega⟩ | exact Or.inr ⟨by omega, by omega⟩ | exact ⟨by omega, by omega⟩ | exact ⟨by decide, by decide, by decide⟩ | exact sq_of (by assumption) | exact Or.inl (by assumption) | exact Or.inl (sq_of (by assumption)) | rfl | decide)
/-! ### promises of the law's helpers -/
def spCell (K : PySem.W.Frag) : Sp := fun vs H Q _ => ∃ (l : Addr) (k : Nat) (ns : List Int), vs = [.ref l, .int (k : Int)] ∧ SqL K H l (ns.map V.int) ∧ k ≤ 100 ∧ ∀ c : Int, RetV (.int c) H Q
def DigOk (sizes ds : List Int) : Prop := ds.length = sizes.length ∧ ∀ (i : Nat) s d, sizes[i]? = some s → ds[i]? = some d → 0 ≤ d ∧ d < s
theorem DigOk.nil : DigOk [] [] := ⟨rfl, fun i s d h => by simp at h⟩
theorem DigOk.snoc {ss ds : List Int} {s d : Int} (h : DigOk ss ds) (h0 : 0 ≤ d) (h1 : d < s) : DigOk (ss ++ [s]) (ds ++ [d]) := by
  refine ⟨by rw [List.length_append, List.length_append, h.1] <;> rfl, fun i s' d' hs hd => ?_⟩
  by_cases hi : i < ss.length
  · rw [List.getElem?_append_left hi] at hs
    rw [List.getElem?_append_left (by rw [h.1]; exact hi)] at hd
    exact h.2 i s' d' hs hd
  · rw [List.getElem?_append_right (by omega)] at hs
    rw [List.getElem?_append_right (by rw [h.1]; omega)] at hd
    rw [h.1] at hd
    cases hj : i - ss.length with
    | zero =>
      rw [hj] at hs hd
      cases (Option.some.inj hs)
      cases (Option.some.inj hd)
      exact ⟨h0, h1⟩
    | succ j =>
      rw [hj] at hs
      simp at hs
theorem take_one {α : Type} {l : List α} {i : Nat} {x : α} (h : l[i]? = some x) : l.take (i + 1) = l.take i ++ [x] := by
  obtain ⟨hi, e⟩ := List.getElem?_eq_some_iff.mp h
  rw [← e, List.take_append_getElem hi]
theorem map_get {l : List Int} {i : Nat} {x : V} (h : (l.map V.int)[i]? = some x) : ∃ z, l[i]? = some z ∧ x = .int z := by
  rw [List.getElem?_map] at h
  cases e : l[i]? with
  | none => rw [e] at h; cases h
  | some z => rw [e] at h; exact ⟨z, rfl, (Option.some.inj h).symm⟩
def spDigits (K : PySem.W.Frag) : Sp := fun vs H Q _ => ∃ (c : Int) (p : Addr) (ss : List Int), vs = [.int c, .ref p] ∧ SqL K H p (ss.map V.int) ∧ (∀ s ∈ ss, 1 ≤ s ∧ s ≤ 1000000001) ∧ ss.length ≤ 1000 ∧
  ∀ ds, DigOk ss ds → ∀ q H', Ex H H' → H' q = some (.lst (ds.map V.int)) → Q (.ref q) H'
def spGcd : Sp := fun vs H Q _ => ∃ a b : Nat, vs = [.int (a : Int), .int (b : Int)] ∧ b < 100000 ∧ RetV (.int ((Nat.gcd a b : Nat) : Int)) H Q
section
variable {P : Program} {w : World} {K : PySem.W.Frag} {mg : Str → Option Value} {base : Heap} {H : Hp}
abbrev sLawCell : Stmt := top 30
theorem scLawCell : FnScope ["script", "k", "seed", "cell"] ["script", "k"] (defScope sLawCell) := ⟨rfl, rfl, rfl, by decide +kernel, rfl, by decide +kernel, by decide +kernel⟩
abbrev sLawDigits : Stmt := top 31
theorem scLawDigits : FnScope ["cell", "sizes", "row", "rest", "size", "seed", "k", "twice"] ["cell", "sizes"] (defScope sLawDigits) := ⟨rfl, rfl, rfl, by decide +kernel, rfl, by decide +kernel, by decide +kernel⟩
abbrev sLawDot : Stmt := top 32
theorem scLawDot : FnScope ["one", "two"] ["one", "two"] (defScope sLawDot) := ⟨rfl, rfl, rfl, by decide +kernel, rfl, by decide +kernel, by decide +kernel⟩
theorem df_cell (B : Bi mg) (S : At K mg "_law_cell" sLawCell ["script", "k"]) : Df P w K mg base CX0 "_law_cell" 1 ["script", "k"] (spCell K) := by
  obtain ⟨f, fd, F, m, b⟩ := S
  refine ⟨f, fd, m, F.kp, b, F.ok scLawCell (fun vs H Q E h => ?_) (fun cdv A outer s H vs Q E hr h => ?_)⟩
  · obtain ⟨l, k, ns, rfl, _⟩ := h
    rfl
  obtain ⟨l, k, ns, rfl, hl, hk, q⟩ := h
  refine ⟨_, (pss_cons (ps_if (pt_cmpR op_lt (pv 1) (pe_callB call_len_seq rfl B.len PySem.boot_len (pa_cons (pv 0) pa_nil)) (nomark _)) (pss_one (ps_ret (pe_ix ix_list (pv 0) (pv 1) (fun _ _ => rfl)))) pss_nil)
  (pss_cons (ps_set (i := 2) scLawCell.nd rfl (Or.inl rfl) pe_int)
  (pss_cons (ps_for PassesOwn.never rfl (pi_list (pv 0)) (pg_name (i := 3) scLawCell.nd rfl (Or.inl rfl)) (pss_one (ps_set (i := 2) scLawCell.nd rfl (Or.inl rfl) (pe_op op_mod (pe_callTy call_int1 rfl B.int PyProof.Rows.boot_int (pa_cons (pe_op op_add (pe_op op_mul (pv 2) pe_int) (pe_op op_mod (pe_callTy call_int1 rfl B.int PyProof.Rows.boot_int (pa_cons (pv 3) pa_nil)) pe_int)) pa_nil)) pe_int))))
  (pss_one (ps_ret (pe_op op_mod (pe_callTy call_int1 rfl B.int PyProof.Rows.boot_int (pa_cons (pe_op op_mul (pe_op op_mul (pe_op op_add (pv 2) pe_int) (pe_op op_add (pv 1) pe_int)) pe_int) pa_nil)) pe_int)))))), ?_⟩
  refine q_when (et_test (ev_op (ev_var rfl) (ev_lenQ (ev_var rfl) (.inl hl)) rv_I0)) (fun hb H1 e1 => ?_) fun hb H1 e1 => ?_
  · have h1 := of_decide_eq_true hb
    rw [List.length_map] at h1
    exact s_ret (ev_op (ev_var rfl) (ev_var rfl) (rv_ixL (ex_l e1 hl) (atI_ints (by omega) h1))) fun H2 e2 => q _ _ (e1.trans e2)
  · refine q_asg ev_c fun H2 e2 => ?_
    have e02 := e1.trans e2
    refine q_forLn (ev_var rfl) (ex_l e02 hl) (fun i σ' H' => ∃ s o, σ' = [some (.ref l), some (.int (k : Int)), some (.int s), o] ∧ (0 ≤ s ∧ s < 1000003) ∧ Ex H H') (fun H3 e3 => ⟨17, none, rfl, ⟨by decide, by decide⟩, e02.trans e3⟩) (fun i σ' H' _ h => ex_l h.choose_spec.choose_spec.2.2 hl) ?_ ?_
    · rintro i x σ' H' hi ⟨s, o, rfl, ⟨s0, s1⟩, e3⟩
      obtain ⟨z, hz, rfl⟩ := map_get hi
      exact s_asg (ev_mod (ev_int (ev_op (ev_mul (ev_var rfl) ev_c (by walk_at "side")) (ev_mod (ev_int (ev_var rfl)) ev_c (by walk_at "side")) rv_I0)) ev_c (by walk_at "side")) fun H4 e4 => ⟨_, _, rfl, ⟨Int.emod_nonneg _ (by decide), Int.emod_lt_of_pos _ (by decide)⟩, e3.trans e4⟩
    · rintro σ' H' ⟨s, o, rfl, ⟨s0, s1⟩, e3⟩
      have z1 : (s + 7) * ((k : Int) + 3) < 2 ^ 64 := by
        have a1 : (s + 7) * ((k : Int) + 3) ≤ 1000010 * ((k : Int) + 3) := Int.mul_le_mul_of_nonneg_right (by omega) (by omega)
        omega
      have z0 : 0 ≤ (s + 7) * ((k : Int) + 3) := Int.mul_nonneg (by omega) (by omega)
      exact s_ret (ev_mod (ev_int (ev_mul (ev_mul (ev_op (ev_var rfl) ev_c rv_I0) (ev_op (ev_var rfl) ev_c rv_I0) (by walk_at "side")) ev_c (by walk_at "side"))) ev_c (by walk_at "side")) fun H4 e4 => q _ _ (e3.trans e4)
theorem df_digits (B : Bi mg) (S : At K mg "_law_digits" sLawDigits ["cell", "sizes"]) : Df P w K mg base CX0 "_law_digits" 1 ["cell", "sizes"] (spDigits K) := by
  obtain ⟨f, fd, F, m, b⟩ := S
  refine ⟨f, fd, m, F.kp, b, F.ok scLawDigits (fun vs H Q E h => ?_) (fun cdv A outer s H vs Q E hr h => ?_)⟩
  · obtain ⟨c, p, ss, rfl, _⟩ := h
    rfl
  obtain ⟨c, p, ss, rfl, hp, hs, hlen, q⟩ := h
  refine ⟨_, (pss_cons (ps_set (i := 2) scLawDigits.nd rfl (Or.inl rfl) (pe_lst pa_nil))
  (pss_cons (ps_set (i := 3) scLawDigits.nd rfl (Or.inl rfl) (pe_callTy call_int1 rfl B.int PyProof.Rows.boot_int (pa_cons (pv 0) pa_nil)))
  (pss_cons (ps_if (pt_cmpR op_ge (pv 3) (pe_op op_pow pe_int pe_int) (nomark _)) (pss_cons (ps_set (i := 3) scLawDigits.nd rfl (Or.inl rfl) (pe_op op_sub (pv 3) (pe_op op_pow pe_int pe_int)))
  (pss_cons (ps_for PassesOwn.never rfl (pi_list (pv 1)) (pg_name (i := 4) scLawDigits.nd rfl (Or.inl rfl)) (pss_cons (ps_expr (pe_bm PySem.F.plainAttrs_list PySem.F.slot_list_append PySem.F.type_list_append mt_append (pv 2) (pa_cons (pe_op op_mod (pe_callTy call_int1 rfl B.int PyProof.Rows.boot_int (pa_cons (pv 3) pa_nil)) (pv 4)) pa_nil)))
  (pss_one (ps_set (i := 3) scLawDigits.nd rfl (Or.inl rfl) (pe_op op_fdiv (pe_callTy call_int1 rfl B.int PyProof.Rows.boot_int (pa_cons (pv 3) pa_nil)) (pv 4))))))
  (pss_one (ps_ret (pv 2))))) pss_nil)
  (pss_cons (ps_set (i := 5) scLawDigits.nd rfl (Or.inl rfl) (pe_op op_mod (pe_callTy call_int1 rfl B.int PyProof.Rows.boot_int (pa_cons (pv 3) pa_nil)) pe_int))
  (pss_cons (ps_for PassesOwn.never rfl (pi_range1 rfl B.range (pa_cons (pe_callB call_len_seq rfl B.len PySem.boot_len (pa_cons (pv 1) pa_nil)) pa_nil)) (pg_name (i := 6) scLawDigits.nd rfl (Or.inl rfl)) (pss_cons (ps_set (i := 5) scLawDigits.nd rfl (Or.inl rfl) (pe_op op_mod (pe_callTy call_int1 rfl B.int PyProof.Rows.boot_int (pa_cons (pe_op op_add (pe_op op_add (pe_op op_mul (pv 5) pe_int) (pe_op op_mul pe_int (pv 6))) pe_int) pa_nil)) pe_int))
  (pss_cons (ps_set (i := 7) scLawDigits.nd rfl (Or.inl rfl) (pe_op op_mod (pe_callTy call_int1 rfl B.int PyProof.Rows.boot_int (pa_cons (pe_op op_mul (pv 5) (pe_op op_add (pe_op op_fdiv (pv 5) pe_int) pe_int)) pa_nil)) pe_int))
  (pss_one (ps_expr (pe_bm PySem.F.plainAttrs_list PySem.F.slot_list_append PySem.F.type_list_append mt_append (pv 2) (pa_cons (pe_op op_mod (pe_op op_fdiv (pv 7) pe_int) (pe_ix ix_list (pv 1) (pv 6) (fun _ _ => rfl))) pa_nil)))))))
  (pss_one (ps_ret (pv 2)))))))), ?_⟩
  refine q_asgL (el_lst ea_nil (Nat.zero_le _)) fun r H1 hr0 e1 hr1 => ?_
  refine q_asg (ev_int (ev_var rfl)) fun H2 e2 => ?_
  have hr2 := e2 _ _ hr1
  refine q_when (et_test (ev_op (ev_var rfl) (ev_pow ev_c ev_c (by walk_at "side")) rv_I0)) (fun hb H3 e3 => ?_) fun hb H3 e3 => ?_
  · refine q_asg (ev_op (ev_var rfl) (ev_pow ev_c ev_c (by walk_at "side")) rv_I0) fun H4 e4 => ?_
    have e04 := ((e1.trans e2).trans e3).trans e4
    refine q_forLn (ev_var rfl) (ex_l e04 hp) (fun i σ' H' => ∃ z o ds, σ' = [some (.int c), some (.ref p), some (.ref r), some (.int z), o, none, none, none] ∧ H' r = some (.lst (ds.map V.int)) ∧ DigOk (ss.take i) ds ∧ Ex H H')
      (fun H5 e5 => ⟨_, none, [], rfl, e5 _ _ (e4 _ _ (e3 _ _ hr2)), by rw [List.take_zero]; exact DigOk.nil, e04.trans e5⟩) (fun i σ' H' _ h => ex_l h.choose_spec.choose_spec.choose_spec.2.2.2 hp) ?_ ?_
    · rintro i x σ' H' hi ⟨z, o, ds, rfl, hr5, hds, e5⟩
      obtain ⟨sz, hsz, rfl⟩ := map_get hi
      obtain ⟨b1, b2⟩ := hs sz (mem_of_get hsz)
      have hil := (List.getElem?_eq_some_iff.mp hsz).1
      have dl : (ds.map V.int).length < 100000 := by rw [List.length_map, hds.1, List.length_take]; omega
      refine q_app hr5 (ev_var rfl) (ev_mod (ev_int (ev_var rfl)) (ev_var rfl) (by walk_at "side")) dl fun H6 e6 => ?_
      refine s_asg (ev_fdiv (ev_int (ev_var rfl)) (ev_var rfl) (by walk_at "side")) fun H7 e7 => ?_
      refine ⟨_, _, ds ++ [z % sz], rfl, e7 _ _ ?_, ?_, (Ex.mut (e5.trans e6) hr0).trans e7⟩
      · rw [List.map_append]
        exact upd_same
      · rw [take_one hsz]
        exact hds.snoc (Int.emod_nonneg _ (by omega)) (Int.emod_lt_of_pos _ (by omega))
    · rintro σ' H' ⟨z, o, ds, rfl, hr5, hds, e5⟩
      rw [List.length_map, List.take_length] at hds
      exact s_ret (ev_var rfl) fun H6 e6 => q ds hds r _ (e5.trans e6) (e6 _ _ hr5)
  · refine q_asg (ev_mod (ev_int (ev_var rfl)) ev_c (by walk_at "side")) fun H4 e4 => ?_
    have e04 := ((e1.trans e2).trans e3).trans e4
    refine q_forR1 (ea_cons (ev_len (ev_var rfl) (ex_l e04 hp)) ea_nil) (by rw [List.length_map]; omega) (fun i σ' H' => ∃ z o o2 ds, σ' = [some (.int c), some (.ref p), some (.ref r), some (.int c), none, some (.int z), o, o2] ∧ H' r = some (.lst (ds.map V.int)) ∧ DigOk (ss.take i) ds ∧ (0 ≤ z ∧ z < 2147483647) ∧ Ex H H')
      (fun H5 e5 => ⟨_, none, none, [], rfl, e5 _ _ (e4 _ _ (e3 _ _ hr2)), by rw [List.take_zero]; exact DigOk.nil, ⟨Int.emod_nonneg _ (by decide), by have := Int.emod_lt_of_pos c (show (0 : Int) < 2147483629 by decide); omega⟩, e04.trans e5⟩) ?_ ?_
    · rintro i σ' H' hi ⟨z, o, o2, ds, rfl, hr5, hds, ⟨z0, z1⟩, e5⟩
      rw [List.length_map] at hi
      have hil : i < ss.length := by omega
      have hsz : ss[i]? = some ss[i] := List.getElem?_eq_getElem hil
      obtain ⟨b1, b2⟩ := hs ss[i] (List.getElem_mem hil)
      have dl : (ds.map V.int).length < 100000 := by rw [List.length_map, hds.1, List.length_take]; omega
      refine q_asg (ev_mod (ev_int (ev_op (ev_op (ev_mul (ev_var rfl) ev_c (by walk_at "side")) (ev_mul ev_c (ev_var rfl) (by walk_at "side")) rv_I0) ev_c rv_I0)) ev_c (by walk_at "side")) fun H6 e6 => ?_
      have y0 : 0 ≤ (z * 48271 + 974711 * (i : Int) + 12345) % 2147483647 := Int.emod_nonneg _ (by decide)
      have y1 : (z * 48271 + 974711 * (i : Int) + 12345) % 2147483647 < 2147483647 := Int.emod_lt_of_pos _ (by decide)
      generalize (z * 48271 + 974711 * (i : Int) + 12345) % 2147483647 = y at y0 y1 ⊢
      refine q_asg (ev_mod (ev_int (ev_mul (ev_var rfl) (ev_op (ev_fdiv (ev_var rfl) ev_c (by walk_at "side")) ev_c rv_I0) (by walk_at "side"))) ev_c (by walk_at "side")) fun H7 e7 => ?_
      generalize y * (y / 65537 + 3) % 2147483629 = t
      have pix : SqL K H7 p (ss.map V.int) := ex_l ((e5.trans e6).trans e7) hp
      have hat : atI (ss.map V.int) (i : Int) = some (.int ss[i]) := atI_nat (by rw [List.getElem?_map, hsz] <;> rfl)
      refine s_app (e7 _ _ (e6 _ _ hr5)) (ev_var rfl) (ev_mod (ev_fdiv (ev_var rfl) ev_c (by walk_at "side")) (ev_op (ev_var rfl) (ev_var rfl) (rv_ixL (by walk_at "side") (by walk_at "side"))) (by walk_at "side")) dl fun H8 e8 => ?_
      refine ⟨_, _, _, ds ++ [t / 19 % ss[i]], rfl, ?_, ?_, ⟨y0, y1⟩, Ex.mut (((e5.trans e6).trans e7).trans e8) hr0⟩
      · rw [List.map_append]
        exact upd_same
      · rw [take_one hsz]
        exact hds.snoc (Int.emod_nonneg _ (by omega)) (Int.emod_lt_of_pos _ (by omega))
    · rintro σ' H' ⟨z, o, o2, ds, rfl, hr5, hds, _, e5⟩
      rw [Int.toNat_natCast, List.length_map, List.take_length] at hds
      exact s_ret (ev_var rfl) fun H6 e6 => q ds hds r _ (e5.trans e6) (e6 _ _ hr5)
theorem df_lawDot (S : At K mg "_law_dot" sLawDot ["one", "two"]) : Df P w K mg base CX0 "_law_dot" 1 ["one", "two"] (spDot K) := by
  obtain ⟨f, fd, F, m, b⟩ := S
  refine ⟨f, fd, m, F.kp, b, F.ok scLawDot (fun vs H Q E h => ?_) (fun cdv A outer s H vs Q E hr h => ?_)⟩
  · obtain ⟨p, q, f, g, h, x, y, z, rfl, _⟩ := h
    rfl
  obtain ⟨p, q, f, g, h, x, y, z, rfl, h1, h2, h3, h4, h5, k⟩ := h
  refine ⟨_, (pss_one (ps_ret (pe_op op_add (pe_op op_add (pe_op op_mul (pe_ix ix_lt (pv 0) pe_int (fun _ _ => rfl)) (pe_ix ix_lt (pv 1) pe_int (fun _ _ => rfl))) (pe_op op_mul (pe_ix ix_lt (pv 0) pe_int (fun _ _ => rfl)) (pe_ix ix_lt (pv 1) pe_int (fun _ _ => rfl)))) (pe_op op_mul (pe_ix ix_lt (pv 0) pe_int (fun _ _ => rfl)) (pe_ix ix_lt (pv 1) pe_int (fun _ _ => rfl)))))), ?_⟩
  exact s_ret (v := .int (f * x + g * y + h * z)) (ev_op (ev_op (ev_mul (ev_op (ev_var rfl) ev_c (rv_ixQ (by walk_at "side") (by walk_at "side"))) (ev_op (ev_var rfl) ev_c (rv_ixQ (by walk_at "side") (by walk_at "side"))) (by walk_at "side")) (ev_mul (ev_op (ev_var rfl) ev_c (rv_ixQ (by walk_at "side") (by walk_at "side"))) (ev_op (ev_var rfl) ev_c (rv_ixQ (by walk_at "side") (by walk_at "side"))) (by walk_at "side")) rv_I0) (ev_mul (ev_op (ev_var rfl) ev_c (rv_ixQ (by walk_at "side") (by walk_at "side"))) (ev_op (ev_var rfl) ev_c (rv_ixQ (by walk_at "side") (by walk_at "side"))) (by walk_at "side")) rv_I0) fun H1 e => k H1 e
end
end Kf

set_option Elab.async false
set_option linter.all false
set_option maxRecDepth 100000
set_option maxHeartbeats 4000000
namespace Kf
open PySem L2 Evl
local macro_rules | `(tactic| walk_at "side") => `(tactic| first | assumption | omega | exact Or.inl ⟨by omega, by omega⟩ | exact Or.inr ⟨by omega, by omega⟩ | exact ⟨by omega, by omega⟩ | exact ⟨by decide, by decide, by decide⟩ | exact sq_of (by assumption) | exact Or.inl (by assumption) | exact Or.inl (sq_of (by assumption)) | rfl | decide)
/-! ### menus, drawn rows, parts -/
abbrev MenuOk (ms : List Int) : Prop := 0 < ms.length ∧ ms.length ≤ 12 ∧ ∀ m ∈ ms, 1 ≤ m ∧ m ≤ 12
def IsMenu (v : V) (H : Hp) : Prop := ∃ q ms, v = .ref q ∧ H q = some (.lst (ms.map V.int)) ∧ MenuOk ms
theorem IsMenu.mo {v : V} {H H' : Hp} (h : IsMenu v H) (e : Ex H H') : IsMenu v H' := by
  obtain ⟨q, ms, a, b, c⟩ := h
  exact ⟨q, ms, a, e _ _ b, c⟩
def AllM (n : Nat) (vs : List V) (H : Hp) : Prop := vs.length = n ∧ ∀ v ∈ vs, IsMenu v H
inductive Pt where
  | is (f g h r m : Int) | not | and | or
def PartAt (K : PySem.W.Frag) (H : Hp) (v : V) : Pt → Prop
  | .is f g h r m => ∃ a b, v = .ref a ∧ SqT K H a [.str "is", .ref b, .int r, .int m] ∧ SqT K H b [.int f, .int g, .int h]
  | .not => ∃ a, v = .ref a ∧ SqT K H a [.str "not"]
  | .and => ∃ a, v = .ref a ∧ SqT K H a [.str "and"]
  | .or => ∃ a, v = .ref a ∧ SqT K H a [.str "or"]
theorem PartAt.mo {K : PySem.W.Frag} {H H' : Hp} {v : V} {p : Pt} (h : PartAt K H v p) (e : Ex H H') : PartAt K H' v p := by
  cases p with
  | is f g h r m => obtain ⟨a, b, x, y, z⟩ := h; exact ⟨a, b, x, ex_t e y, ex_t e z⟩
  | not => obtain ⟨a, x, y⟩ := h; exact ⟨a, x, ex_t e y⟩
  | and => obtain ⟨a, x, y⟩ := h; exact ⟨a, x, ex_t e y⟩
  | or => obtain ⟨a, x, y⟩ := h; exact ⟨a, x, ex_t e y⟩
def spModuli : Sp := fun vs H Q _ => ∃ k : Int, vs = [.int k] ∧ 0 ≤ k ∧ k ≤ 8 ∧ ∀ ms, MenuOk ms → ∀ q H', Ex H H' → H' q = some (.lst (ms.map V.int)) → Q (.ref q) H'
def spGreat : Sp := fun vs H Q _ => ∃ c : Int, vs = [.int c] ∧ ∀ x y z : Int, ∀ q H', Ex H H' → H' q = some (.lst [.int x, .int y, .int z]) → Q (.ref q) H'
/-- the first digits are below these sizes -/
def DigPre (ss ds : List Int) : Prop := ss.length ≤ ds.length ∧ ∀ (i : Nat) s d, ss[i]? = some s → ds[i]? = some d → 0 ≤ d ∧ d < s
theorem DigOk.pre {ss ds : List Int} (h : DigOk ss ds) : DigPre ss ds := ⟨by rw [h.1]; exact Nat.le_refl _, h.2⟩
abbrev leafSizes : List Int := [3, 199, 199, 199, 12, 12, 2]
def spLeaf (K : PySem.W.Frag) : Sp := fun vs H Q _ => ∃ (pd pn pm : Addr) (ds ms : List Int) (x y z : Int), vs = [.ref pd, .ref pn, .ref pm] ∧ SqL K H pd (ds.map V.int) ∧ DigPre leafSizes ds ∧ Sq K H pn [.int x, .int y, .int z] ∧ SqL K H pm (ms.map V.int) ∧ MenuOk ms ∧
  ∀ f g h r m, LeafOk f g h r m → ∀ v H', Ex H H' → PartAt K H' v (.is f g h r m) → Q v H'
theorem DigPre.at {ss ds : List Int} {j : Int} (h : DigPre ss ds) (h0 : 0 ≤ j) (h1 : j < ss.length) : 0 ≤ ds.getD j.toNat 0 ∧ ds.getD j.toNat 0 < ss.getD j.toNat 0 := by
  have hj : j.toNat < ss.length := by omega
  have hd : j.toNat < ds.length := by have := h.1; omega
  have k := h.2 j.toNat ss[j.toNat] ds[j.toNat] (List.getElem?_eq_getElem hj) (List.getElem?_eq_getElem hd)
  rw [List.getD_eq_getElem?_getD, List.getElem?_eq_getElem hd, List.getD_eq_getElem?_getD, List.getElem?_eq_getElem hj]
  exact k
theorem DigOk.at {ss ds : List Int} {j : Int} (h : DigOk ss ds) (h0 : 0 ≤ j) (h1 : j < ss.length) : 0 ≤ ds.getD j.toNat 0 ∧ ds.getD j.toNat 0 < ss.getD j.toNat 0 := h.pre.at h0 h1
section
variable {K : PySem.W.Frag} {σ : L2.St} {H H' : Hp} {ta tb te : TE} {tr : TA} {D : Ends} {tz : TS}
theorem eam_nil : EvAP tNil σ H (AllM 0) := fun H1 _ Q q => q [] H1 (Ex.refl H1) ⟨rfl, fun v h => by simp at h⟩
theorem eam_cons {n : Nat} {xs : List V} (ms : List Int) (h : EvL te σ H xs) (e : xs = ms.map V.int) (ok : MenuOk ms) (hr : EvAP tr σ H (AllM n)) : EvAP (tCons te tr) σ H (AllM (n + 1)) := fun H1 a Q q =>
  h H1 a _ fun p H2 _ a2 h2 => hr H2 (a.trans a2) _ fun vs H3 a3 r => q _ H3 (a2.trans a3) ⟨by rw [List.length_cons, r.1], fun v hv => by
    rcases List.mem_cons.mp hv with rfl | hv
    · exact ⟨p, ms, rfl, by rw [← e]; exact a3 _ _ h2, ok⟩
    · exact r.2 v hv⟩
/-- name = a list of things made on the way -/
theorem q_asgLP {i : Nat} {R : List V → Hp → Prop} (h : EvAP tr σ H R) (hl : ∀ vs H1, R vs H1 → vs.length ≤ 100000) (k : ∀ p vs H1, Ex H H1 → R vs H1 → H1 p = none → tz D (σ.set i (some (.ref p))) (upd H1 p (.lst vs))) : tSeq (tAsg (tLst tr) (gName i)) tz D σ H :=
  h H (Ex.refl H) _ fun vs H1 a r => ⟨sz_of (hl vs H1 r), fun p hp => k p vs H1 a r hp⟩
theorem el_catLL {xs ys : List V} (ha : EvL ta σ H xs) (hb : EvL tb σ H ys) (hz : xs.length + ys.length ≤ 100000) : EvL (tOp rCat ta tb) σ H (xs ++ ys) := fun H1 a Q q =>
  ha H1 a _ fun p H2 hp a2 h2 => hb H2 (a.trans a2) _ fun p' H3 hp' a3 h3 => ⟨p, p', xs, ys, rfl, rfl, a3 _ _ h2, h3, sz_of hz, fun l hl => q l _ (fresh_back (a2.trans a3) hl) ((a2.trans a3).trans (Ex.new hl)) upd_same⟩
theorem el_rep {xs : List V} {k : Int} (ha : EvL ta σ H xs) (hb : Ev tb σ H (.int k)) (h0 : 0 ≤ k) (h1 : k ≤ 100) (hz : xs.length * k.toNat ≤ 100000) : EvL (tOp rRep ta tb) σ H (List.replicate k.toNat xs).flatten := fun H1 a Q q =>
  ha H1 a _ fun p H2 hp a2 h2 => hb H2 (a.trans a2) _ fun H3 a3 => ⟨p, k, xs, rfl, rfl, a3 _ _ h2, by omega, by omega, sz_of hz, fun l hl => q l _ (fresh_back (a2.trans a3) hl) ((a2.trans a3).trans (Ex.new hl)) upd_same⟩
theorem evp_tupP {R : List V → Hp → Prop} (h : EvAP tr σ H R) (hl : ∀ vs H1, R vs H1 → vs.length ≤ 100000) : EvP (tTup tr) σ H fun v H1 => ∃ p vs H0, v = .ref p ∧ H1 p = some (.tup vs) ∧ Ex H0 H1 ∧ R vs H0 := fun H1 a Q q =>
  h H1 a _ fun vs H2 a2 r => ⟨sz_of (hl vs H2 r), fun p hp => q _ _ (a2.trans (Ex.new hp)) ⟨p, vs, H2, rfl, upd_same, Ex.new hp, r⟩⟩
/-- a written list at a drawn place -/
theorem ev_pick {xs : List Int} {ys : List V} {i : Int} (ha : EvL ta σ H ys) (e : ys = xs.map V.int) (hb : Ev tb σ H (.int i)) (h0 : 0 ≤ i) (h1 : i < xs.length) : Ev (tOp (rIxL K) ta tb) σ H (.int (xs.getD i.toNat 0)) :=
  ev_opL1 ha (fun H1 a => hb.mono a) fun p H1 hp _ => by
    rw [e] at hp
    exact rv_ixL (sq_of hp) (atI_ints h0 h1)
theorem getD_mem {l : List Int} {i : Int} (h0 : 0 ≤ i) (h : i < l.length) : l.getD i.toNat 0 ∈ l := by
  have hi : i.toNat < l.length := by omega
  rw [List.getD_eq_getElem?_getD, List.getElem?_eq_getElem hi]
  exact List.getElem_mem hi
theorem sv_digits {c : Int} {p : Addr} {ss : List Int} (h : SqL K H p (ss.map V.int)) (hs : ∀ s ∈ ss, 1 ≤ s ∧ s ≤ 1000000001) (hl : ss.length ≤ 1000) :
    SpP (spDigits K) [.int c, .ref p] H fun v H1 => ∃ q ds, v = .ref q ∧ DigOk ss ds ∧ H1 q = some (.lst (ds.map V.int)) := fun H1 e Q k E => ⟨c, p, ss, rfl, ex_l e h, hs, hl, fun ds ok q H2 e2 h2 => k _ _ e2 ⟨q, ds, rfl, ok, h2⟩⟩
theorem sv_cell {l : Addr} {k : Nat} {ns : List Int} (h : SqL K H l (ns.map V.int)) (hk : k ≤ 100) : SpP (spCell K) [.ref l, .int (k : Int)] H fun v _ => ∃ c : Int, v = .int c := fun H1 e Q q E => ⟨l, k, ns, rfl, ex_l e h, hk, fun c H2 e2 => q _ _ e2 ⟨c, rfl⟩⟩
theorem sv_moduli {k : Int} (h0 : 0 ≤ k) (h1 : k ≤ 8) : SpP spModuli [.int k] H IsMenu := fun H1 e Q q E => ⟨k, rfl, h0, h1, fun ms ok p H2 e2 h2 => q _ _ e2 ⟨p, ms, rfl, h2, ok⟩⟩
def IsRow3 (v : V) (H : Hp) : Prop := ∃ q x y z, v = .ref q ∧ H q = some (.lst [.int x, .int y, .int z])
theorem sv_great {c : Int} : SpP spGreat [.int c] H IsRow3 := fun H1 e Q q E => ⟨c, rfl, fun x y z p H2 e2 h2 => q _ _ e2 ⟨p, x, y, z, rfl, h2⟩⟩
def IsLeaf (K : PySem.W.Frag) (v : V) (H : Hp) : Prop := ∃ f g h r m, LeafOk f g h r m ∧ PartAt K H v (.is f g h r m)
theorem sv_leaf {pd pn pm : Addr} {ds ms : List Int} {x y z : Int} (h1 : SqL K H pd (ds.map V.int)) (ok : DigPre leafSizes ds) (h2 : Sq K H pn [.int x, .int y, .int z]) (h3 : SqL K H pm (ms.map V.int)) (om : MenuOk ms) : SpP (spLeaf K) [.ref pd, .ref pn, .ref pm] H (IsLeaf K) :=
  fun H1 e Q q E => ⟨pd, pn, pm, ds, ms, x, y, z, rfl, ex_l e h1, ok, h2.ex e, ex_l e h3, om, fun f g h r m lo v H2 e2 hp => q _ _ e2 ⟨f, g, h, r, m, lo, hp⟩⟩
theorem sv_gcd {a b : Nat} (hb : b < 100000) : SpV spGcd [.int (a : Int), .int (b : Int)] H (.int ((Nat.gcd a b : Nat) : Int)) := fun H1 e Q q E => ⟨a, b, rfl, hb, q⟩
/-- a call of digits upon a list made on the way -/
theorem evp_digits {E : XK} {c : Int} {xs : List V} (ss : List Int) (ha : Ev ta σ H (.int c)) (hb : EvL tb σ H xs) (e : xs = ss.map V.int) (hs : ∀ s ∈ ss, 1 ≤ s ∧ s ≤ 1000000001) (hl : ss.length ≤ 1000) :
    EvP (tCall (spDigits K) [] E (tCons ta (tCons tb tNil))) σ H fun v H1 => ∃ q ds, v = .ref q ∧ DigOk ss ds ∧ H1 q = some (.lst (ds.map V.int)) := by
  subst e
  refine evp_callP (R := fun vs H1 => ∃ p, vs = [.int c, .ref p] ∧ H1 p = some (.lst (ss.map V.int))) ?_ fun vs H1 e1 hv => ?_
  · refine eap_cons (P := fun v _ => v = .int c) (evp_ev ha fun _ _ => rfl) fun v H1 e1 hv => ?_
    subst hv
    refine eap_cons (P := IsL (ss.map V.int)) (evp_L (hb.mono e1) fun p H2 _ h2 => ⟨p, rfl, h2⟩) fun v H2 e2 hv => ?_
    obtain ⟨p, rfl, hp⟩ := hv
    exact fun H3 e3 Q q => q [] H3 (Ex.refl H3) ⟨p, rfl, e3 _ _ hp⟩
  · obtain ⟨p, rfl, hp⟩ := hv
    exact sv_digits (sq_of hp) hs hl
end
section
variable {P : Program} {w : World} {K : PySem.W.Frag} {mg : Str → Option Value} {base : Heap} {H : Hp}
abbrev sLawModuli : Stmt := top 33
theorem scLawModuli : FnScope ["kind", "lists"] ["kind"] (defScope sLawModuli) := ⟨rfl, rfl, rfl, by decide +kernel, rfl, by decide +kernel, by decide +kernel⟩
abbrev sLawLeaf : Stmt := top 34
theorem scLawLeaf : FnScope ["digits", "near", "menu", "factors", "k", "number", "many", "rest"] ["digits", "near", "menu"] (defScope sLawLeaf) := ⟨rfl, rfl, rfl, by decide +kernel, rfl, by decide +kernel, by decide +kernel⟩
theorem df_moduli (S : At K mg "_law_moduli" sLawModuli ["kind"]) : Df P w K mg base CX0 "_law_moduli" 1 ["kind"] spModuli := by
  obtain ⟨f, fd, F, m, b⟩ := S
  refine ⟨f, fd, m, F.kp, b, F.ok scLawModuli (fun vs H Q E h => ?_) (fun cdv A outer s H vs Q E hr h => ?_)⟩
  · obtain ⟨k, rfl, _⟩ := h
    rfl
  obtain ⟨k, rfl, k0, k1, q⟩ := h
  refine ⟨_, (pss_cons (ps_set (i := 1) scLawModuli.nd rfl (Or.inl rfl) (pe_lst (pa_cons (pe_lst (pa_cons pe_int (pa_cons pe_int (pa_cons pe_int (pa_cons pe_int pa_nil))))) (pa_cons (pe_lst (pa_cons pe_int (pa_cons pe_int (pa_cons pe_int (pa_cons pe_int pa_nil))))) (pa_cons (pe_lst (pa_cons pe_int (pa_cons pe_int (pa_cons pe_int (pa_cons pe_int pa_nil))))) (pa_cons (pe_lst (pa_cons pe_int (pa_cons pe_int (pa_cons pe_int (pa_cons pe_int pa_nil))))) (pa_cons (pe_lst (pa_cons pe_int (pa_cons pe_int (pa_cons pe_int (pa_cons pe_int pa_nil))))) (pa_cons (pe_lst (pa_cons pe_int (pa_cons pe_int (pa_cons pe_int (pa_cons pe_int pa_nil))))) (pa_cons (pe_lst (pa_cons pe_int (pa_cons pe_int (pa_cons pe_int (pa_cons pe_int pa_nil))))) pa_nil)))))))))
  (pss_cons (ps_expr (pe_bm PySem.F.plainAttrs_list PySem.F.slot_list_append PySem.F.type_list_append mt_append (pv 1) (pa_cons (pe_lst (pa_cons pe_int (pa_cons pe_int (pa_cons pe_int (pa_cons pe_int pa_nil))))) pa_nil)))
  (pss_cons (ps_expr (pe_bm PySem.F.plainAttrs_list PySem.F.slot_list_append PySem.F.type_list_append mt_append (pv 1) (pa_cons (pe_lst (pa_cons pe_int (pa_cons pe_int (pa_cons pe_int (pa_cons pe_int (pa_cons pe_int (pa_cons pe_int (pa_cons pe_int (pa_cons pe_int (pa_cons pe_int (pa_cons pe_int (pa_cons pe_int (pa_cons pe_int pa_nil))))))))))))) pa_nil)))
  (pss_one (ps_ret (pe_ix ix_list (pv 1) (pv 0) (fun _ _ => rfl))))))), ?_⟩
  have four : ∀ {σ : L2.St} {H : Hp} {a b c d : V}, EvL (tLst (tCons (tC a) (tCons (tC b) (tCons (tC c) (tCons (tC d) tNil))))) σ H [a, b, c, d] := fun {σ H a b c d} => el_lst (ea_cons ev_c (ea_cons ev_c (ea_cons ev_c (ea_cons ev_c ea_nil)))) (by show 4 ≤ 100000; decide)
  refine q_asgLP (eam_cons [1, 2, 3, 4] four rfl (by decide) (eam_cons [8, 2, 4, 1] four rfl (by decide) (eam_cons [5, 10, 2, 1] four rfl (by decide) (eam_cons [3, 9, 1, 9] four rfl (by decide) (eam_cons [6, 12, 4, 3] four rfl (by decide) (eam_cons [7, 1, 7, 7] four rfl (by decide) (eam_cons [11, 1, 11, 11] four rfl (by decide) eam_nil)))))))
    (fun vs H1 r => by rw [r.1]; decide) fun p vs H1 e1 r hp => ?_
  have x1 : Ex H1 (upd H1 p (.lst vs)) := Ex.new hp
  refine q_appL upd_same (ev_var rfl) four (by rw [r.1]; decide) fun p1 H2 hp1 e2 h2 => ?_
  have ne1 : p1 ≠ p := fun z => by rw [z, upd_same] at hp1; cases hp1
  have x2 : Ex H1 (upd H2 p (.lst (vs ++ [V.ref p1]))) := Ex.mut (x1.trans e2) hp
  refine q_appL upd_same (ev_var rfl) (xs := vs ++ [V.ref p1]) (el_lst (ea_cons ev_c (ea_cons ev_c (ea_cons ev_c (ea_cons ev_c (ea_cons ev_c (ea_cons ev_c (ea_cons ev_c (ea_cons ev_c (ea_cons ev_c (ea_cons ev_c (ea_cons ev_c (ea_cons ev_c ea_nil)))))))))))) (by show 12 ≤ 100000; decide)) (by rw [List.length_append, r.1]; show 7 + 1 < 100000; decide) fun p2 H3 hp2 e3 h3 => ?_
  have ne2 : p2 ≠ p := fun z => by rw [z, upd_same] at hp2; cases hp2
  have x3 : Ex H1 (upd H3 p (.lst ((vs ++ [V.ref p1]) ++ [V.ref p2]))) := Ex.mut (x2.trans e3) hp
  have all : ∀ v ∈ (vs ++ [V.ref p1]) ++ [V.ref p2], IsMenu v (upd H3 p (.lst ((vs ++ [V.ref p1]) ++ [V.ref p2]))) := fun v hv => by
    rcases List.mem_append.mp hv with hv | hv
    · rcases List.mem_append.mp hv with hv | hv
      · exact (r.2 v hv).mo x3
      · have e : v = .ref p1 := by simpa using hv
        subst e
        refine ⟨p1, [12, 6, 2, 3], rfl, ?_, by decide⟩
        rw [upd_ne ne1]
        refine e3 _ _ ?_
        rw [upd_ne ne1]
        exact h2
    · have e : v = .ref p2 := by simpa using hv
      subst e
      refine ⟨p2, [1, 2, 3, 4, 5, 6, 7, 8, 9, 10, 11, 12], rfl, ?_, by decide⟩
      rw [upd_ne ne2]
      exact h3
  have ln : ((vs ++ [V.ref p1]) ++ [V.ref p2]).length = 9 := by rw [List.length_append, List.length_append, r.1] <;> rfl
  refine s_ret (v := ((vs ++ [V.ref p1]) ++ [V.ref p2]).getD k.toNat .non) (ev_op (ev_var rfl) (ev_var rfl) (rv_ixL (sq_of upd_same) (atI_getD k0 (by rw [ln]; omega)))) fun H4 e4 => ?_
  have hk : k.toNat < ((vs ++ [V.ref p1]) ++ [V.ref p2]).length := by rw [ln]; omega
  have mem : ((vs ++ [V.ref p1]) ++ [V.ref p2]).getD k.toNat .non ∈ (vs ++ [V.ref p1]) ++ [V.ref p2] := by
    rw [List.getD_eq_getElem?_getD, List.getElem?_eq_getElem hk]
    exact List.getElem_mem hk
  obtain ⟨qa, ms, e, hq, om⟩ := all _ mem
  rw [e]
  exact q ms om qa _ ((e1.trans x3).trans e4) (e4 _ _ hq)
theorem df_leaf (DLawDot : Df P w K mg base CX0 "_law_dot" 1 ["one", "two"] (spDot K)) (B : Bi mg) (S : At K mg "_law_leaf" sLawLeaf ["digits", "near", "menu"]) : Df P w K mg base CX0 "_law_leaf" 2 ["digits", "near", "menu"] (spLeaf K) := by
  obtain ⟨f, fd, F, m, b⟩ := S
  refine ⟨f, fd, m, F.kp, b, F.ok scLawLeaf (fun vs H Q E h => ?_) (fun cdv A outer s H vs Q E hr h => ?_)⟩
  · obtain ⟨pd, pn, pm, ds, ms, x, y, z, rfl, _⟩ := h
    rfl
  obtain ⟨pd, pn, pm, ds, ms, x, y, z, rfl, hd, ok, hn, hm, om, q⟩ := h
  refine ⟨_, (pss_cons (ps_set (i := 3) scLawLeaf.nd rfl (Or.inl rfl) (pe_lst pa_nil))
  (pss_cons (ps_for PassesOwn.never rfl (pi_range1 rfl B.range (pa_cons pe_int pa_nil)) (pg_name (i := 4) scLawLeaf.nd rfl (Or.inl rfl)) (pss_cons (ps_set (i := 5) scLawLeaf.nd rfl (Or.inl rfl) (pe_ix ix_list (pv 0) (pe_op op_add pe_int (pv 4)) (fun _ _ => rfl)))
  (pss_one (ps_expr (pe_bm PySem.F.plainAttrs_list PySem.F.slot_list_append PySem.F.type_list_append mt_append (pv 3) (pa_cons (pe_ix ix_list (pe_lst (pa_cons (pe_op op_sub (pv 5) pe_int) (pa_cons (pe_op op_sub (pe_op op_mod (pe_callTy call_int1 rfl B.int PyProof.Rows.boot_int (pa_cons (pv 5) pa_nil)) pe_int) pe_int) (pa_cons (pe_ix ix_list (pe_lst (pa_cons pe_int (pa_cons pe_int (pa_cons (pe_un un_neg pe_int) (pa_cons pe_int (pa_cons (pe_un un_neg pe_int) pa_nil)))))) (pe_op op_mod (pe_callTy call_int1 rfl B.int PyProof.Rows.boot_int (pa_cons (pv 5) pa_nil)) pe_int) (fun _ _ => rfl)) pa_nil)))) (pe_ix ix_list (pv 0) pe_int (fun _ _ => rfl)) (fun _ _ => rfl)) pa_nil))))))
  (pss_cons (ps_set (i := 6) scLawLeaf.nd rfl (Or.inl rfl) (pe_ix ix_list (pv 2) (pe_op op_mod (pe_callTy call_int1 rfl B.int PyProof.Rows.boot_int (pa_cons (pe_ix ix_list (pv 0) pe_int (fun _ _ => rfl)) pa_nil)) (pe_callB call_len_seq rfl B.len PySem.boot_len (pa_cons (pv 2) pa_nil))) (fun _ _ => rfl)))
  (pss_cons (ps_set (i := 7) scLawLeaf.nd rfl (Or.inl rfl) (pe_op op_mod (pe_callTy call_int1 rfl B.int PyProof.Rows.boot_int (pa_cons (pe_ix ix_list (pv 0) pe_int (fun _ _ => rfl)) pa_nil)) (pv 6)))
  (pss_cons (ps_if (pt_cmpR op_eq (pe_ix ix_list (pv 0) pe_int (fun _ _ => rfl)) pe_int (nomark _)) (pss_one (ps_set (i := 7) scLawLeaf.nd rfl (Or.inl rfl) (pe_op op_mod (pe_callTy call_int1 rfl B.int PyProof.Rows.boot_int (pa_cons (pe_df DLawDot hr pass0 (pa_cons (pv 3) (pa_cons (pv 1) pa_nil))) pa_nil)) (pv 6)))) pss_nil)
  (pss_one (ps_ret (pe_tup (pa_cons pe_str (pa_cons (pe_tup (pa_cons (pe_ix ix_list (pv 3) pe_int (fun _ _ => rfl)) (pa_cons (pe_ix ix_list (pv 3) pe_int (fun _ _ => rfl)) (pa_cons (pe_ix ix_list (pv 3) pe_int (fun _ _ => rfl)) pa_nil)))) (pa_cons (pv 7) (pa_cons (pv 6) pa_nil)))))))))))), ?_⟩
  have dl : (7 : Nat) ≤ ds.length := ok.1
  have b0 := ok.at (j := 0) (by decide) (by decide)
  have b4 := ok.at (j := 4) (by decide) (by decide)
  have b5 := ok.at (j := 5) (by decide) (by decide)
  refine q_asgL (el_lst ea_nil (Nat.zero_le _)) fun r H1 hr0 e1 hr1 => ?_
  refine q_forR1 (n := 3) (ea_cons ev_c ea_nil) ⟨by decide, by decide⟩ (fun i σ' H' => ∃ (o1 o2 : Option V) (fs : List Int), σ' = [some (.ref pd), some (.ref pn), some (.ref pm), some (.ref r), o1, o2, none, none] ∧ H' r = some (.lst (fs.map V.int)) ∧ fs.length = i ∧ (∀ f ∈ fs, -99 ≤ f ∧ f ≤ 99) ∧ Ex H H')
    (fun H3 e3 => ⟨none, none, [], rfl, e3 _ _ hr1, rfl, fun f h => by simp at h, e1.trans e3⟩) ?_ ?_
  · rintro i σ' H' hi ⟨o1, o2, fs, rfl, hr3, hfn, hfs, e3⟩
    have hdq := ex_l e3 hd
    have b1 : 0 ≤ ds.getD (1 + (i : Int)).toNat 0 ∧ ds.getD (1 + (i : Int)).toNat 0 < 199 := by
      have k := ok.at (j := 1 + (i : Int)) (by omega) (by show 1 + (i : Int) < 7; omega)
      have hi' : i = 0 ∨ i = 1 ∨ i = 2 := by omega
      rcases hi' with rfl | rfl | rfl <;> exact k
    refine q_asg (ev_op (ev_var rfl) (ev_op ev_c (ev_var rfl) rv_I0) (rv_ixL hdq (atI_ints (by omega) (by omega)))) fun H4 e4 => ?_
    generalize ds.getD (1 + (i : Int)).toNat 0 = nu at b1 ⊢
    have hdq4 := ex_l e4 hdq
    have c0 : 0 ≤ nu % 5 := Int.emod_nonneg _ (by decide)
    have c1 : nu % 5 < 5 := Int.emod_lt_of_pos _ (by decide)
    have c2 := getD_mem (l := [0, 99, -99, 1, -1]) c0 c1
    have k2 := getD_mem (l := [nu - 99, nu % 5 - 2, ([0, 99, -99, 1, -1] : List Int).getD (nu % 5).toNat 0]) b0.1 b0.2
    have b3 : -99 ≤ ([nu - 99, nu % 5 - 2, ([0, 99, -99, 1, -1] : List Int).getD (nu % 5).toNat 0] : List Int).getD (ds.getD (0 : Int).toNat 0).toNat 0 ∧ ([nu - 99, nu % 5 - 2, ([0, 99, -99, 1, -1] : List Int).getD (nu % 5).toNat 0] : List Int).getD (ds.getD (0 : Int).toNat 0).toNat 0 ≤ 99 := by
      simp only [List.mem_cons, List.not_mem_nil, or_false] at k2 c2
      omega
    refine s_app (e4 _ _ hr3) (ev_var rfl) (ev_pick (xs := [nu - 99, nu % 5 - 2, ([0, 99, -99, 1, -1] : List Int).getD (nu % 5).toNat 0]) (el_lst (ea_cons (ev_op (ev_var rfl) ev_c rv_I0) (ea_cons (ev_op (ev_mod (ev_int (ev_var rfl)) ev_c (by decide)) ev_c rv_I0)
      (ea_cons (ev_pick (xs := [0, 99, -99, 1, -1]) (el_lst (ea_cons ev_c (ea_cons ev_c (ea_cons (ev_un ev_c ru_neg) (ea_cons ev_c (ea_cons (ev_un ev_c ru_neg) ea_nil))))) (by show 5 ≤ 100000; decide)) rfl (ev_mod (ev_int (ev_var rfl)) ev_c (by decide)) c0 c1) ea_nil))) (by show 3 ≤ 100000; decide)) rfl
      (ev_op (ev_var rfl) ev_c (rv_ixL hdq4 (atI_ints (by decide) (by omega)))) b0.1 b0.2) (by rw [List.length_map]; omega) fun H5 e5 => ?_
    refine ⟨_, _, fs ++ [([nu - 99, nu % 5 - 2, ([0, 99, -99, 1, -1] : List Int).getD (nu % 5).toNat 0] : List Int).getD (ds.getD (0 : Int).toNat 0).toNat 0], rfl, ?_, by rw [List.length_append, hfn] <;> rfl, fun f hf => ?_, Ex.mut ((e3.trans e4).trans e5) hr0⟩
    · rw [List.map_append]
      exact upd_same
    · rcases List.mem_append.mp hf with hf | hf
      · exact hfs f hf
      · have e : f = _ := List.mem_singleton.mp hf
        rw [e]
        exact b3
  · rintro σ' H' ⟨o1, o2, fs, rfl, hr3, hfn, hfs, e3⟩
    have h3 : (3 : Int).toNat = 3 := rfl
    rw [h3] at hfn
    match fs, hfn with
    | [f, g, h], _ =>
      have f0 := hfs f List.mem_cons_self
      have g0 := hfs g (List.mem_cons_of_mem _ List.mem_cons_self)
      have h0 := hfs h (List.mem_cons_of_mem _ (List.mem_cons_of_mem _ List.mem_cons_self))
      have hdq := ex_l e3 hd
      have hmq := ex_l e3 hm
      have m0 : 0 < (ms.length : Int) := by have := om.1; omega
      have i0 : 0 ≤ ds.getD (4 : Int).toNat 0 % (ms.length : Int) := Int.emod_nonneg _ (by omega)
      have i1 : ds.getD (4 : Int).toNat 0 % (ms.length : Int) < (ms.length : Int) := Int.emod_lt_of_pos _ m0
      have mm := om.2.2 _ (getD_mem i0 i1)
      refine q_asg (ev_op (ev_var rfl) (ev_mod (ev_int (ev_op (ev_var rfl) ev_c (rv_ixL hdq (atI_ints (by decide) (by omega))))) (ev_is (ev_lenQ (ev_var rfl) (.inl hmq)) (by rw [List.length_map])) m0) (rv_ixL hmq (atI_ints i0 i1))) fun H4 e4 => ?_
      generalize ms.getD (ds.getD (4 : Int).toNat 0 % (ms.length : Int)).toNat 0 = mo at mm ⊢
      have hdq4 := ex_l e4 hdq
      refine q_asg (ev_mod (ev_int (ev_op (ev_var rfl) ev_c (rv_ixL hdq4 (atI_ints (by decide) (by omega))))) (ev_var rfl) (by omega)) fun H5 e5 => ?_
      have hdq5 := ex_l e5 hdq4
      have hr5 := e5 _ _ (e4 _ _ hr3)
      have fin : ∀ (re : Int) (H6 : Hp), Ex H5 H6 → 0 ≤ re ∧ re ≤ mo - 1 → tRet (tTup (tCons (tC (V.str "is")) (tCons (tTup (tCons (tOp (rIxL K) (tVar 3) (tC (.int 0))) (tCons (tOp (rIxL K) (tVar 3) (tC (.int 1))) (tCons (tOp (rIxL K) (tVar 3) (tC (.int 2))) tNil)))) (tCons (tVar 7) (tCons (tVar 6) tNil))))) { nx := fun _ H' => Q .non H', rt := Q } [some (.ref pd), some (.ref pn), some (.ref pm), some (.ref r), o1, o2, some (.int mo), some (.int re)] H6 := fun re H6 e6 hre => by
        have hr6 : SqL K H6 r ([.int f, .int g, .int h] : List V) := sq_of (e6 _ _ hr5)
        refine s_retP (evp_tupP (R := fun vs H7 => ∃ b, vs = [.str "is", .ref b, .int re, .int mo] ∧ H7 b = some (.tup [.int f, .int g, .int h])) ?_ fun vs H7 hv => ?_) fun v H7 e7 hv => ?_
        · refine eap_cons (P := fun v _ => v = .str "is") (evp_ev ev_c fun _ _ => rfl) fun v H7 e7 hv => ?_
          subst hv
          refine eap_cons (P := IsU [.int f, .int g, .int h]) (evp_U (eu_tup (ea_cons (ev_op (ev_var rfl) ev_c (rv_ixL (ex_l e7 hr6) rfl)) (ea_cons (ev_op (ev_var rfl) ev_c (rv_ixL (ex_l e7 hr6) rfl)) (ea_cons (ev_op (ev_var rfl) ev_c (rv_ixL (ex_l e7 hr6) rfl)) ea_nil))) (by show 3 ≤ 100000; decide)) fun p H8 _ h8 => ⟨p, rfl, h8⟩) fun v H8 e8 hv => ?_
          obtain ⟨b, rfl, hb⟩ := hv
          exact fun H9 e9 Q' q' => ⟨_, rfl, _, rfl, q' [.int re, .int mo] H9 (Ex.refl H9) ⟨b, rfl, e9 _ _ hb⟩⟩
        · obtain ⟨b, rfl, _⟩ := hv
          show 4 ≤ 100000
          decide
        · obtain ⟨p, vs, H0, rfl, hp, e0, b, rfl, hb⟩ := hv
          exact q f g h re mo ⟨f0, g0, h0, mm, hre⟩ _ _ (((((e3.trans e4).trans e5).trans e6).trans e7)) ⟨p, b, rfl, st_of hp, st_of (e0 _ _ hb)⟩
      refine q_when (et_test (ev_intEq (ev_op (ev_var rfl) ev_c (rv_ixL hdq5 (atI_ints (by decide) (by omega)))) ev_c)) (fun hb H6 e6 => ?_) fun hb H6 e6 => ?_
      · have hr6 := e6 _ _ hr5
        refine s_asg (ev_mod (ev_int (ev_callV (ea_cons (ev_var rfl) (ea_cons (ev_var rfl) ea_nil)) (sv_dot (.inl (sq_of hr6)) ((((hn.ex e3).ex e4).ex e5).ex e6) f0 g0 h0))) (ev_var rfl) (by omega)) fun H7 e7 => ?_
        exact fin _ H7 (e6.trans e7) ⟨Int.emod_nonneg _ (by omega), by have := Int.emod_lt_of_pos (f * x + g * y + h * z) (show 0 < mo by omega); omega⟩
      · exact fin _ H6 e6 ⟨Int.emod_nonneg _ (by omega), by have := Int.emod_lt_of_pos (ds.getD (5 : Int).toNat 0) (show 0 < mo by omega); omega⟩
end
end Kf

set_option Elab.async false
set_option linter.all false
set_option maxRecDepth 100000
set_option maxHeartbeats 4000000
namespace Kf
open PySem L2 Evl
/-! ### a claim as its parts in the order of a stack -/
def Cl.post : Cl → List Pt
  | .is f g h r m => [.is f g h r m]
  | .not c => c.post ++ [.not]
  | .and a b => a.post ++ b.post ++ [.and]
  | .or a b => a.post ++ b.post ++ [.or]
def Cl.leaves : Cl → Nat
  | .is .. => 1
  | .not c => c.leaves
  | .and a b => a.leaves + b.leaves
  | .or a b => a.leaves + b.leaves
theorem Cl.leaves_pos : ∀ c : Cl, 1 ≤ c.leaves
  | .is .. => Nat.le_refl 1
  | .not c => c.leaves_pos
  | .and a b => Nat.le_trans a.leaves_pos (Nat.le_add_right _ _)
  | .or a b => Nat.le_trans a.leaves_pos (Nat.le_add_right _ _)
def Cl.bin : Bool → Cl → Cl → Cl
  | false => .and
  | true => .or
def Pt.bin : Bool → Pt
  | false => .and
  | true => .or
def binW : Bool → Str
  | false => "and"
  | true => "or"
theorem Cl.post_bin (s : Bool) (a b : Cl) : (Cl.bin s a b).post = a.post ++ b.post ++ [Pt.bin s] := by cases s <;> rfl
theorem Cl.depth_bin (s : Bool) (a b : Cl) : (Cl.bin s a b).depth = max a.depth b.depth + 1 := by cases s <;> rfl
theorem Cl.leaves_bin (s : Bool) (a b : Cl) : (Cl.bin s a b).leaves = a.leaves + b.leaves := by cases s <;> rfl
theorem Cl.ok_bin (s : Bool) {a b : Cl} (ha : a.Ok) (hb : b.Ok) : (Cl.bin s a b).Ok := by cases s <;> exact ⟨ha, hb⟩
theorem partAt_bin {K : PySem.W.Frag} {H : Hp} {a : Addr} (s : Bool) (h : SqT K H a [.str (binW s)]) : PartAt K H (.ref a) (Pt.bin s) := by cases s <;> exact ⟨a, rfl, h⟩

/-! ### the machine: parts upon a stack, its top first -/
def stepC : List Cl → Pt → Option (List Cl)
  | s, .is f g h r m => some (.is f g h r m :: s)
  | c :: s, .not => some (.not c :: s)
  | b :: a :: s, .and => some (.and a b :: s)
  | b :: a :: s, .or => some (.or a b :: s)
  | _, _ => none
theorem step_not : ∀ {ts us : List Cl}, stepC ts .not = some us → ∃ c s, ts = c :: s ∧ us = .not c :: s
  | [], _, h => nomatch h
  | c :: s, _, h => ⟨c, s, rfl, (Option.some.inj h).symm⟩
theorem step_and : ∀ {ts us : List Cl}, stepC ts .and = some us → ∃ b a s, ts = b :: a :: s ∧ us = .and a b :: s
  | [], _, h => nomatch h
  | [_], _, h => nomatch h
  | b :: a :: s, _, h => ⟨b, a, s, rfl, (Option.some.inj h).symm⟩
theorem step_or : ∀ {ts us : List Cl}, stepC ts .or = some us → ∃ b a s, ts = b :: a :: s ∧ us = .or a b :: s
  | [], _, h => nomatch h
  | [_], _, h => nomatch h
  | b :: a :: s, _, h => ⟨b, a, s, rfl, (Option.some.inj h).symm⟩
def parse : List Pt → List Cl → Option (List Cl)
  | [], s => some s
  | p :: r, s => (stepC s p).bind (parse r)
theorem parse_app : ∀ (a b : List Pt) (s : List Cl), parse (a ++ b) s = (parse a s).bind (parse b)
  | [], b, s => rfl
  | p :: r, b, s => by
    show (stepC s p).bind (parse (r ++ b)) = ((stepC s p).bind (parse r)).bind (parse b)
    cases stepC s p with
    | none => rfl
    | some t => exact parse_app r b t
theorem parse_post : ∀ (c : Cl) (s : List Cl), parse c.post s = some (c :: s)
  | .is .., s => rfl
  | .not c, s => by
    show parse (c.post ++ [.not]) s = _
    rw [parse_app, parse_post c s] <;> rfl
  | .and a b, s => by
    show parse (a.post ++ b.post ++ [Pt.and]) s = _
    rw [parse_app, parse_app, parse_post a s, Option.bind_some, parse_post b (a :: s)] <;> rfl
  | .or a b, s => by
    show parse (a.post ++ b.post ++ [Pt.or]) s = _
    rw [parse_app, parse_app, parse_post a s, Option.bind_some, parse_post b (a :: s)] <;> rfl
/-- every beginning of a right code runs -/
theorem parse_take {ps : List Pt} {s : List Cl} (h : parse ps [] = some s) (i : Nat) : ∃ t, parse (ps.take i) [] = some t := by
  have e : parse (ps.take i ++ ps.drop i) [] = some s := by rw [List.take_append_drop]; exact h
  rw [parse_app] at e
  cases k : parse (ps.take i) [] with
  | none => rw [k] at e; cases e
  | some t => exact ⟨t, rfl⟩
theorem parse_next {ps : List Pt} {p : Pt} {i : Nat} {t : List Cl} {s : List Cl} (h : parse ps [] = some s) (hp : ps[i]? = some p) (ht : parse (ps.take i) [] = some t) : ∃ u, stepC t p = some u ∧ parse (ps.take (i + 1)) [] = some u := by
  obtain ⟨u, hu⟩ := parse_take h (i + 1)
  have e := hu
  rw [take_one hp, parse_app, ht, Option.bind_some] at e
  have e2 : (stepC t p).bind (parse []) = some u := e
  cases k : stepC t p with
  | none => rw [k] at e2; cases e2
  | some v =>
    rw [k] at e2
    have e3 : some v = some u := e2
    exact ⟨u, e3, hu⟩
/-- the modulus of a code -/
def stepL (n : Nat) : Pt → Nat
  | .is _ _ _ _ m => n.lcm m.toNat
  | _ => n
def lcmP (ps : List Pt) : Nat := ps.foldl stepL 1
theorem lcm_fold : ∀ (c : Cl) (n : Nat), c.post.foldl stepL n = n.lcm c.many
  | .is .., n => rfl
  | .not c, n => by
    show (c.post ++ [Pt.not]).foldl _ n = n.lcm c.many
    rw [List.foldl_append, lcm_fold c n] <;> rfl
  | .and a b, n => by
    show (a.post ++ b.post ++ [Pt.and]).foldl _ n = n.lcm (a.many.lcm b.many)
    rw [List.foldl_append, List.foldl_append, lcm_fold a n, lcm_fold b _, ← Nat.lcm_assoc] <;> rfl
  | .or a b, n => by
    show (a.post ++ b.post ++ [Pt.or]).foldl _ n = n.lcm (a.many.lcm b.many)
    rw [List.foldl_append, List.foldl_append, lcm_fold a n, lcm_fold b _, ← Nat.lcm_assoc] <;> rfl
theorem lcmP_post (c : Cl) : lcmP c.post = c.many := (lcm_fold c 1).trans (by rw [Nat.lcm_comm, Nat.lcm_one_right])
def PtOk : Pt → Prop
  | .is f g h r m => LeafOk f g h r m
  | _ => True
theorem Cl.pts : ∀ {c : Cl}, c.Ok → ∀ p ∈ c.post, PtOk p
  | .is .., ok, p, h => by
    have e := List.mem_singleton.mp h
    subst e
    exact ok
  | .not c, ok, p, h => by
    rcases List.mem_append.mp h with h | h
    · exact Cl.pts (c := c) ok p h
    · rw [List.mem_singleton.mp h]; trivial
  | .and a b, ok, p, h => by
    rcases List.mem_append.mp h with h | h
    · rcases List.mem_append.mp h with h | h
      · exact Cl.pts ok.1 p h
      · exact Cl.pts ok.2 p h
    · rw [List.mem_singleton.mp h]; trivial
  | .or a b, ok, p, h => by
    rcases List.mem_append.mp h with h | h
    · rcases List.mem_append.mp h with h | h
      · exact Cl.pts ok.1 p h
      · exact Cl.pts ok.2 p h
    · rw [List.mem_singleton.mp h]; trivial
theorem lcmP_dvd : ∀ (ps : List Pt) (n : Nat), (∀ p ∈ ps, PtOk p) → n ∣ 27720 → 0 < n → ps.foldl stepL n ∣ 27720 ∧ 0 < ps.foldl stepL n
  | [], n, _, h, h0 => ⟨h, h0⟩
  | .is f g h r m :: ps, n, hp, hd, h0 => by
    have k := Cl.dvd (c := .is f g h r m) (hp _ List.mem_cons_self)
    exact lcmP_dvd ps _ (fun p hq => hp p (List.mem_cons_of_mem _ hq)) (Nat.lcm_dvd hd k.1) (Nat.lcm_pos h0 k.2)
  | .not :: ps, n, hp, hd, h0 => lcmP_dvd ps n (fun p hq => hp p (List.mem_cons_of_mem _ hq)) hd h0
  | .and :: ps, n, hp, hd, h0 => lcmP_dvd ps n (fun p hq => hp p (List.mem_cons_of_mem _ hq)) hd h0
  | .or :: ps, n, hp, hd, h0 => lcmP_dvd ps n (fun p hq => hp p (List.mem_cons_of_mem _ hq)) hd h0
theorem lcmP_le {ps : List Pt} (h : ∀ p ∈ ps, PtOk p) : lcmP ps ≤ 27720 ∧ 0 < lcmP ps := ⟨Nat.le_of_dvd (by decide) (lcmP_dvd ps 1 h (Nat.one_dvd _) (by decide)).1, (lcmP_dvd ps 1 h (Nat.one_dvd _) (by decide)).2⟩
theorem Cl.post_le : ∀ c : Cl, c.post.length ≤ 2 ^ c.depth + 2 ^ c.depth - 1 - 1 + 1
  | .is .. => by show 1 ≤ 2 ^ 1 + 2 ^ 1 - 1 - 1 + 1; decide
  | .not c => by
    have h := Cl.post_le c
    have e : (Cl.not c).post.length = c.post.length + 1 := by show (c.post ++ [Pt.not]).length = _; rw [List.length_append] <;> rfl
    have d : (2 : Nat) ^ (Cl.not c).depth = 2 ^ c.depth * 2 := Nat.pow_succ 2 _
    have p : 2 ^ 1 ≤ 2 ^ c.depth := Nat.pow_le_pow_right (by decide) c.pos
    rw [e, d]
    omega
  | .and a b => by
    have h := Cl.post_le a
    have h2 := Cl.post_le b
    have e : (Cl.and a b).post.length = a.post.length + b.post.length + 1 := by show (a.post ++ b.post ++ [Pt.and]).length = _; rw [List.length_append, List.length_append] <;> rfl
    have d : (2 : Nat) ^ (Cl.and a b).depth = 2 ^ max a.depth b.depth * 2 := Nat.pow_succ 2 _
    have p1 : 2 ^ a.depth ≤ 2 ^ max a.depth b.depth := Nat.pow_le_pow_right (by decide) (Nat.le_max_left _ _)
    have p2 : 2 ^ b.depth ≤ 2 ^ max a.depth b.depth := Nat.pow_le_pow_right (by decide) (Nat.le_max_right _ _)
    have p : 2 ^ 1 ≤ 2 ^ a.depth := Nat.pow_le_pow_right (by decide) a.pos
    rw [e, d]
    omega
  | .or a b => by
    have h := Cl.post_le a
    have h2 := Cl.post_le b
    have e : (Cl.or a b).post.length = a.post.length + b.post.length + 1 := by show (a.post ++ b.post ++ [Pt.or]).length = _; rw [List.length_append, List.length_append] <;> rfl
    have d : (2 : Nat) ^ (Cl.or a b).depth = 2 ^ max a.depth b.depth * 2 := Nat.pow_succ 2 _
    have p1 : 2 ^ a.depth ≤ 2 ^ max a.depth b.depth := Nat.pow_le_pow_right (by decide) (Nat.le_max_left _ _)
    have p2 : 2 ^ b.depth ≤ 2 ^ max a.depth b.depth := Nat.pow_le_pow_right (by decide) (Nat.le_max_right _ _)
    have p : 2 ^ 1 ≤ 2 ^ a.depth := Nat.pow_le_pow_right (by decide) a.pos
    rw [e, d]
    omega
theorem Cl.post_small {c : Cl} (h : c.depth ≤ 12) : c.post.length ≤ 9000 := by
  have k := Cl.post_le c
  have p : 2 ^ c.depth ≤ 2 ^ 12 := Nat.pow_le_pow_right (by decide) h
  omega

/-! ### codes in the heap -/
def Parts (K : PySem.W.Frag) (H : Hp) (vs : List V) (ps : List Pt) : Prop := vs.length = ps.length ∧ ∀ (i : Nat) v, vs[i]? = some v → ∃ p, ps[i]? = some p ∧ PartAt K H v p
def CodeAt (K : PySem.W.Frag) (H : Hp) (a : Addr) (ps : List Pt) : Prop := ∃ vs, H a = some (.lst vs) ∧ Parts K H vs ps
section
variable {K : PySem.W.Frag} {H H' : Hp} {vs ws : List V} {ps qs : List Pt} {v : V} {p : Pt} {a c : Addr} {xs ys : List V}
theorem Parts.mo (h : Parts K H vs ps) (e : Ex H H') : Parts K H' vs ps := ⟨h.1, fun i v q => by
  obtain ⟨p, a, b⟩ := h.2 i v q
  exact ⟨p, a, b.mo e⟩⟩
theorem CodeAt.mo (h : CodeAt K H a ps) (e : Ex H H') : CodeAt K H' a ps := by
  obtain ⟨vs, h1, h2⟩ := h
  exact ⟨vs, e _ _ h1, h2.mo e⟩
theorem Parts.nil : Parts K H [] [] := ⟨rfl, fun i v q => by simp at q⟩
theorem Parts.app (h : Parts K H vs ps) (g : Parts K H ws qs) : Parts K H (vs ++ ws) (ps ++ qs) := by
  refine ⟨by rw [List.length_append, List.length_append, h.1, g.1], fun i v q => ?_⟩
  by_cases hi : i < vs.length
  · rw [List.getElem?_append_left hi] at q
    obtain ⟨p, e, k⟩ := h.2 i v q
    exact ⟨p, by rw [List.getElem?_append_left (by rw [← h.1]; exact hi)]; exact e, k⟩
  · rw [List.getElem?_append_right (by omega)] at q
    obtain ⟨p, e, k⟩ := g.2 _ v q
    exact ⟨p, by rw [List.getElem?_append_right (by rw [← h.1]; omega), ← h.1]; exact e, k⟩
theorem Parts.one (h : PartAt K H v p) : Parts K H [v] [p] := ⟨rfl, fun i w q => by
  cases i with
  | zero => cases (Option.some.inj q); exact ⟨p, rfl, h⟩
  | succ i => simp at q⟩
theorem Parts.snoc (h : Parts K H vs ps) (g : PartAt K H v p) : Parts K H (vs ++ [v]) (ps ++ [p]) := h.app (.one g)
/-- a list that changes is no tuple -/
theorem sqT_upd {o : HO} (h : SqT K H a xs) (hc : H c = some (.lst ys)) : SqT K (upd H c o) a xs := by
  rcases h with (h | ⟨u, h⟩) | h
  · exact .inl (.inl (by rw [upd_ne (ne_of h hc (fun z => nomatch z))]; exact h))
  · exact .inl (.inr ⟨u, by rw [upd_ne (ne_of h hc (fun z => nomatch z))]; exact h⟩)
  · exact .inr h
theorem PartAt.upd {o : HO} (h : PartAt K H v p) (hc : H c = some (.lst ys)) : PartAt K (L2.upd H c o) v p := by
  cases p with
  | is f g h r m => obtain ⟨a, b, x, y, z⟩ := h; exact ⟨a, b, x, sqT_upd y hc, sqT_upd z hc⟩
  | not => obtain ⟨a, x, y⟩ := h; exact ⟨a, x, sqT_upd y hc⟩
  | and => obtain ⟨a, x, y⟩ := h; exact ⟨a, x, sqT_upd y hc⟩
  | or => obtain ⟨a, x, y⟩ := h; exact ⟨a, x, sqT_upd y hc⟩
theorem Parts.upd {o : HO} (h : Parts K H vs ps) (hc : H c = some (.lst ys)) : Parts K (L2.upd H c o) vs ps := ⟨h.1, fun i v q => by
  obtain ⟨p, a, b⟩ := h.2 i v q
  exact ⟨p, a, b.upd hc⟩⟩
end
end Kf

set_option Elab.async false
set_option linter.all false
set_option maxRecDepth 100000
set_option maxHeartbeats 4000000
namespace Kf
open PySem L2 Evl
/-! ### slices of drawn digits -/
theorem cut_ints {ds : List Int} {lo hi : Int} (a b : Nat) (ha : lo = (a : Int)) (hb : hi = (b : Int)) (hab : a ≤ b) (hl : b ≤ ds.length) : cutV (ds.map V.int) (some lo) (some hi) = ((ds.drop a).take (b - a)).map V.int := by
  subst ha hb
  unfold cutV
  rw [HT.sIx_nat, HT.sIx_nat, List.length_map, Nat.min_eq_left (by omega : a ≤ ds.length), Nat.min_eq_left hl, List.map_take, List.map_drop]
theorem DigOk.slice {ss ds : List Int} (h : DigOk ss ds) (a n : Nat) : DigOk ((ss.drop a).take n) ((ds.drop a).take n) := by
  refine ⟨by rw [List.length_take, List.length_take, List.length_drop, List.length_drop, h.1], fun i s d hs hd => ?_⟩
  by_cases hi : i < n
  · rw [List.getElem?_take_of_lt hi, List.getElem?_drop] at hs hd
    exact h.2 _ s d hs hd
  · rw [List.getElem?_eq_none (by rw [List.length_take]; omega)] at hs
    cases hs
/-! ### stacks of claims, the code that stands for them, their depths -/
def flat (ts : List Cl) : List Pt := (ts.map Cl.post).flatten
def depV (ts : List Cl) : List V := ts.map fun t => V.int (t.depth : Nat)
def many1 (ts : List Cl) : Nat := (ts.map Cl.leaves).sum
theorem flat_snoc (ts : List Cl) (t : Cl) : flat (ts ++ [t]) = flat ts ++ t.post := by
  unfold flat
  rw [List.map_append, List.flatten_append]
  show _ ++ (t.post ++ []) = _
  rw [List.append_nil]
theorem depV_snoc (ts : List Cl) (t : Cl) : depV (ts ++ [t]) = depV ts ++ [V.int (t.depth : Nat)] := by
  unfold depV
  rw [List.map_append] <;> rfl
theorem many1_snoc (ts : List Cl) (t : Cl) : many1 (ts ++ [t]) = many1 ts + t.leaves := by
  unfold many1
  rw [List.map_append, List.sum_append]
  show _ + (t.leaves + 0) = _
  rw [Nat.add_zero]
theorem depV_len (ts : List Cl) : (depV ts).length = ts.length := List.length_map _
theorem many1_le (ts : List Cl) : ts.length ≤ many1 ts := by
  induction ts with
  | nil => exact Nat.le_refl 0
  | cons t r ih =>
    have := t.leaves_pos
    have e : many1 (t :: r) = t.leaves + many1 r := by unfold many1; rw [List.map_cons, List.sum_cons]
    rw [e, List.length_cons]
    omega
def Good (ts : List Cl) : Prop := ∀ t ∈ ts, t.Ok ∧ t.depth ≤ t.leaves + 2
theorem Good.snoc {ts : List Cl} {t : Cl} (h : Good ts) (ok : t.Ok) (hd : t.depth ≤ t.leaves + 2) : Good (ts ++ [t]) := fun x hx => by
  rcases List.mem_append.mp hx with hx | hx
  · exact h x hx
  · rw [List.mem_singleton.mp hx]
    exact ⟨ok, hd⟩
theorem Good.left {ts : List Cl} {t : Cl} (h : Good (ts ++ [t])) : Good ts := fun x hx => h x (List.mem_append_left _ hx)
theorem Good.right {ts : List Cl} {t : Cl} (h : Good (ts ++ [t])) : t.Ok ∧ t.depth ≤ t.leaves + 2 := h t (List.mem_append_right _ (List.mem_singleton.mpr rfl))
theorem Good.len {ts : List Cl} (h : Good ts) (hm : many1 ts ≤ 10) : (flat ts).length ≤ 90000 := by
  have k : ∀ ts : List Cl, (∀ t ∈ ts, t.post.length ≤ 9000) → (flat ts).length ≤ 9000 * ts.length := by
    intro ts
    induction ts with
    | nil => intro _; exact Nat.le_refl 0
    | cons t r ih =>
      intro hq
      have h1 := ih fun x hx => hq x (List.mem_cons_of_mem _ hx)
      have h2 := hq t List.mem_cons_self
      have e : flat (t :: r) = t.post ++ flat r := by unfold flat; rw [List.map_cons, List.flatten_cons]
      rw [e, List.length_append, List.length_cons]
      omega
  have l1 : ∀ t ∈ ts, t.leaves ≤ many1 ts := by
    intro t ht
    obtain ⟨a, b, e⟩ := List.append_of_mem ht
    subst e
    unfold many1
    rw [List.map_append, List.sum_append, List.map_cons, List.sum_cons]
    omega
  have h2 := k ts fun t ht => Cl.post_small (by have := (h t ht).2; have := l1 t ht; omega)
  have h3 := many1_le ts
  omega
section
variable {K : PySem.W.Frag} {σ : L2.St} {H H' : Hp} {ta tb te : TE} {tr : TA} {D : Ends} {tz : TS}
/-! ### values on the way -/
def IsCode (K : PySem.W.Frag) (ps : List Pt) : Pr := fun v H => ∃ p, v = .ref p ∧ CodeAt K H p ps
theorem evp_catC {ps qs : List Pt} (ha : EvP ta σ H (IsCode K ps)) (hb : ∀ H1, Ex H H1 → EvP tb σ H1 (IsCode K qs)) (hz : ps.length + qs.length ≤ 100000) : EvP (tOp rCat ta tb) σ H (IsCode K (ps ++ qs)) := fun H1 a Q q =>
  ha H1 a _ fun v H2 a2 hv => hb H2 (a.trans a2) H2 (Ex.refl H2) _ fun u H3 a3 hu => by
    obtain ⟨p, rfl, vs, h1, h2⟩ := hv
    obtain ⟨p', rfl, ws, g1, g2⟩ := hu
    exact ⟨p, p', vs, ws, rfl, rfl, a3 _ _ h1, g1, sz_of (by rw [h2.1, g2.1]; exact hz), fun l hl => q _ _ ((a2.trans a3).trans (Ex.new hl)) ⟨l, rfl, _, upd_same, ((h2.mo a3).mo (Ex.new hl)).app (g2.mo (Ex.new hl))⟩⟩
theorem evp_lstC {ps : List Pt} (h : EvAP tr σ H fun vs H1 => Parts K H1 vs ps) (hl : ps.length ≤ 100000) : EvP (tLst tr) σ H (IsCode K ps) := fun H1 a Q q =>
  h H1 a _ fun vs H2 a2 r => ⟨sz_of (by rw [r.1]; exact hl), fun p hp => q _ _ (a2.trans (Ex.new hp)) ⟨p, rfl, vs, upd_same, r.mo (Ex.new hp)⟩⟩
theorem eapt_nil : EvAP tNil σ H fun vs H1 => Parts K H1 vs [] := fun H1 _ Q q => q [] H1 (Ex.refl H1) .nil
theorem eapt_cons {p : Pt} {ps : List Pt} (h : EvP te σ H fun v H1 => PartAt K H1 v p) (hr : ∀ H1, Ex H H1 → EvAP tr σ H1 fun vs H2 => Parts K H2 vs ps) : EvAP (tCons te tr) σ H fun vs H1 => Parts K H1 vs (p :: ps) := fun H1 a Q q =>
  h H1 a _ fun v H2 a2 hp => hr H2 (a.trans a2) H2 (Ex.refl H2) _ fun vs H3 a3 r => q _ _ (a2.trans a3) ((Parts.one (hp.mo a3)).app r)
theorem evp_word {w : Str} {p : Pt} (h : Ev te σ H (.str w)) (k : ∀ a H, SqT K H a [.str w] → PartAt K H (.ref a) p) : EvP (tTup (tCons te tNil)) σ H fun v H1 => PartAt K H1 v p :=
  evp_U (eu_tup (ea_cons h ea_nil) (by show 1 ≤ 100000; decide)) fun q H1 _ hq => k q H1 (st_of hq)
theorem evp_var {i : Nat} {v : V} {P : Pr} (h : σ[i]? = some (some v)) (k : ∀ H1, Ex H H1 → P v H1) : EvP (tVar i) σ H P := evp_ev (ev_var h) k
/-- ['and', 'or'][i] and ['or', 'and'][i] -/
theorem ev_two {a b : Str} {i : Int} (hb : Ev tb σ H (.int i)) (h0 : 0 ≤ i) (h1 : i < 2) : Ev (tOp (rIxL K) (tLst (tCons (tC (.str a)) (tCons (tC (.str b)) tNil))) tb) σ H (.str (if i = 0 then a else b)) :=
  ev_opL1 (el_lst (ea_cons ev_c (ea_cons ev_c ea_nil)) (by show 2 ≤ 100000; decide)) (fun H1 e => hb.mono e) fun p H1 hp _ => by
    refine rv_ixL (sq_of hp) ?_
    have h2 : i = 0 ∨ i = 1 := by omega
    rcases h2 with rfl | rfl
    · rfl
    · rfl
theorem ev_andOr {i : Int} (hb : Ev tb σ H (.int i)) (h0 : 0 ≤ i) (h1 : i < 2) : Ev (tOp (rIxL K) (tLst (tCons (tC (.str "and")) (tCons (tC (.str "or")) tNil))) tb) σ H (.str (binW (!decide (i = 0)))) := ev_is (ev_two hb h0 h1) (by
  by_cases h : i = 0
  · rw [if_pos h, decide_eq_true h] <;> rfl
  · rw [if_neg h, decide_eq_false h] <;> rfl)
theorem ev_orAnd {i : Int} (hb : Ev tb σ H (.int i)) (h0 : 0 ≤ i) (h1 : i < 2) : Ev (tOp (rIxL K) (tLst (tCons (tC (.str "or")) (tCons (tC (.str "and")) tNil))) tb) σ H (.str (binW (decide (i = 0)))) := ev_is (ev_two hb h0 h1) (by
  by_cases h : i = 0
  · rw [if_pos h, decide_eq_true h] <;> rfl
  · rw [if_neg h, decide_eq_false h] <;> rfl)
theorem last_snoc {α : Type} (xs : List α) (x : α) : (xs ++ [x])[(xs ++ [x]).length - 1]? = some x := by
  rw [List.length_append]
  show (xs ++ [x])[xs.length + 1 - 1]? = some x
  rw [Nat.add_sub_cancel, List.getElem?_append_right (Nat.le_refl _), Nat.sub_self] <;> rfl
/-- x = s.pop() -/
theorem s_pop {i j : Nat} {l : Addr} {xs : List V} {x : V} (hs : σ[i]? = some (some (.ref l))) (hl : H l = some (.lst (xs ++ [x]))) (k : D.nx (σ.set j (some x)) (L2.upd H l (.lst xs))) : tAsg (tBM0 K "list" rPop (tVar i)) (gName j) D σ H :=
  ⟨_, hs, Or.inl ⟨rfl, _, sq_of hl⟩, l, _, x, rfl, rfl, hl, last_snoc xs x, by rw [List.dropLast_concat]; exact k⟩
theorem q_pop {i j : Nat} {l : Addr} {xs : List V} {x : V} (hs : σ[i]? = some (some (.ref l))) (hl : H l = some (.lst (xs ++ [x]))) (k : tz D (σ.set j (some x)) (L2.upd H l (.lst xs))) : tSeq (tAsg (tBM0 K "list" rPop (tVar i)) (gName j)) tz D σ H :=
  s_pop (D := { D with nx := tz D }) hs hl k
def rMaxI : List V → Hp → VK → Prop := fun xs H Q => ∃ i j, xs = [.int i, .int j] ∧ Q (.int (if j > i then j else i)) H
/-- s.append(max(s.pop(), y) + 1) -/
theorem s_popMax {i j : Nat} {l : Addr} {xs : List V} {x y : Int} (hs : σ[i]? = some (some (.ref l))) (hj : σ[j]? = some (some (.int y))) (hl : H l = some (.lst (xs ++ [.int x]))) (hz : xs.length < 100000)
    (k : D.nx σ (L2.upd H l (.lst (xs ++ [.int ((if y > x then y else x) + 1)])))) :
    tDrop (tBM K "list" rAppend (tVar i) (tCons (tOp (rI0 fun i j => .int (i + j)) (tCB rMaxI (tCons (tBM0 K "list" rPop (tVar i)) (tCons (tVar j) tNil))) (tC (.int 1))) tNil)) D σ H :=
  ⟨_, hs, Or.inl ⟨rfl, _, sq_of hl⟩, _, hs, Or.inl ⟨rfl, _, sq_of hl⟩, l, _, _, rfl, rfl, hl, last_snoc xs _, by
    rw [List.dropLast_concat]
    exact ⟨_, hj, x, y, rfl, _, _, rfl, rfl, l, xs, _, rfl, rfl, upd_same, sz_lt hz, by rw [upd_upd]; exact k⟩⟩
/-- s.append(s.pop() + 1) -/
theorem s_popOne {i : Nat} {l : Addr} {xs : List V} {x : Int} (hs : σ[i]? = some (some (.ref l))) (hl : H l = some (.lst (xs ++ [.int x]))) (hz : xs.length < 100000) (k : D.nx σ (L2.upd H l (.lst (xs ++ [.int (x + 1)])))) :
    tDrop (tBM K "list" rAppend (tVar i) (tCons (tOp (rI0 fun i j => .int (i + j)) (tBM0 K "list" rPop (tVar i)) (tC (.int 1))) tNil)) D σ H :=
  ⟨_, hs, Or.inl ⟨rfl, _, sq_of hl⟩, _, hs, Or.inl ⟨rfl, _, sq_of hl⟩, l, _, _, rfl, rfl, hl, last_snoc xs _, by
    rw [List.dropLast_concat]
    exact ⟨_, _, rfl, rfl, l, xs, _, rfl, rfl, upd_same, sz_lt hz, by rw [upd_upd]; exact k⟩⟩
theorem max_int (a b : Nat) : (if (b : Int) > (a : Int) then (b : Int) else (a : Int)) + 1 = ((max a b + 1 : Nat) : Int) := by
  by_cases h : (b : Int) > (a : Int)
  · rw [if_pos h, Nat.max_eq_right (by omega)] <;> rfl
  · rw [if_neg h, Nat.max_eq_left (by omega)] <;> rfl
end
abbrev rowSizes : List Int := [3, 199, 199, 199, 12, 12, 2, 4, 3, 2]
abbrev bigSizes : List Int := [60, 3, 199, 199, 199, 12, 12, 2, 4, 3, 2, 3, 199, 199, 199, 12, 12, 2, 4, 3, 2, 3, 199, 199, 199, 12, 12, 2, 4, 3, 2, 3, 199, 199, 199, 12, 12, 2, 4, 3, 2, 3, 199, 199, 199, 12, 12, 2, 4, 3, 2]
/-- the code of a claim and its depth -/
def IsCodeD (K : PySem.W.Frag) (t : Cl) : Pr := fun v H => ∃ a pc, v = .ref a ∧ SqT K H a [.ref pc, .int (t.depth : Nat)] ∧ CodeAt K H pc t.post
def spCode (K : PySem.W.Frag) : Sp := fun vs H Q _ => ∃ (c : Int) (pn pm : Addr) (most : Nat) (ms : List Int) (x y z : Int), vs = [.int c, .ref pn, .ref pm, .int (most : Int)] ∧ Sq K H pn [.int x, .int y, .int z] ∧ SqL K H pm (ms.map V.int) ∧ MenuOk ms ∧ 1 ≤ most ∧ most ≤ 5 ∧
  ∀ t : Cl, t.Ok → t.depth ≤ most + 2 → t.leaves ≤ most → ∀ v H', Ex H H' → IsCodeD K t v H' → Q v H'
/-- the two lists that the loop grows -/
structure Stk (K : PySem.W.Frag) (Hb : Hp) (pc pq : Addr) (H : Hp) (ps : List Pt) (dv : List V) : Prop where
  ex : Ex Hb H
  b1 : Hb pc = none
  b2 : Hb pq = none
  ne : pc ≠ pq
  code : ∃ vs, H pc = some (.lst vs) ∧ Parts K H vs ps
  deps : H pq = some (.lst dv)
section
variable {K : PySem.W.Frag} {Hb H H' : Hp} {pc pq : Addr} {ps : List Pt} {dv dv' vs : List V} {v : V} {p : Pt}
theorem Stk.mo (h : Stk K Hb pc pq H ps dv) (e : Ex H H') : Stk K Hb pc pq H' ps dv := by
  obtain ⟨vs, a, b⟩ := h.code
  exact ⟨h.ex.trans e, h.b1, h.b2, h.ne, ⟨vs, e _ _ a, b.mo e⟩, e _ _ h.deps⟩
theorem Stk.push (h : Stk K Hb pc pq H ps dv) (h1 : H pc = some (.lst vs)) (h2 : Parts K H vs ps) (hp : PartAt K H v p) : Stk K Hb pc pq (upd H pc (.lst (vs ++ [v]))) (ps ++ [p]) dv :=
  ⟨Ex.mut h.ex h.b1, h.b1, h.b2, h.ne, ⟨vs ++ [v], upd_same, (h2.upd h1).snoc (hp.upd h1)⟩, by rw [upd_ne (Ne.symm h.ne)]; exact h.deps⟩
theorem Stk.dep (h : Stk K Hb pc pq H ps dv) : Stk K Hb pc pq (upd H pq (.lst dv')) ps dv' := by
  obtain ⟨vs, a, b⟩ := h.code
  exact ⟨Ex.mut h.ex h.b2, h.b1, h.b2, h.ne, ⟨vs, by rw [upd_ne h.ne]; exact a, b.upd h.deps⟩, upd_same⟩
end
theorem snoc_of {α : Type} {l : List α} (h : l ≠ []) : ∃ r x, l = r ++ [x] := ⟨l.dropLast, l.getLast h, (List.dropLast_concat_getLast h).symm⟩
section
variable {P : Program} {w : World} {K : PySem.W.Frag} {mg : Str → Option Value} {base : Heap} {H : Hp}
abbrev sLawCode : Stmt := top 35
theorem scLawCode : FnScope ["cell", "near", "menu", "most", "digits", "code", "depths", "k", "row", "two"] ["cell", "near", "menu", "most"] (defScope sLawCode) := ⟨rfl, rfl, rfl, by decide +kernel, rfl, by decide +kernel, by decide +kernel⟩
abbrev sLawWrapped : Stmt := top 36
theorem scLawWrapped : FnScope ["code", "depth", "goal", "cell", "near", "menu", "digits", "k", "row", "leaf", "name"] ["code", "depth", "goal", "cell", "near", "menu"] (defScope sLawWrapped) := ⟨rfl, rfl, rfl, by decide +kernel, rfl, by decide +kernel, by decide +kernel⟩
theorem rows_of {i : Nat} (h : i < 5) : (bigSizes.drop (1 + 10 * i)).take 10 = rowSizes := by
  have k : i = 0 ∨ i = 1 ∨ i = 2 ∨ i = 3 ∨ i = 4 := by omega
  rcases k with rfl | rfl | rfl | rfl | rfl <;> rfl
theorem df_code (DLawDigits : Df P w K mg base CX0 "_law_digits" 1 ["cell", "sizes"] (spDigits K)) (DLawLeaf : Df P w K mg base CX0 "_law_leaf" 2 ["digits", "near", "menu"] (spLeaf K)) (B : Bi mg) (S : At K mg "_law_code" sLawCode ["cell", "near", "menu", "most"]) :
    Df P w K mg base CX0 "_law_code" 3 ["cell", "near", "menu", "most"] (spCode K) := by
  obtain ⟨f, fd, F, m, b⟩ := S
  refine ⟨f, fd, m, F.kp, b, F.ok scLawCode (fun vs H Q E h => ?_) (fun cdv A outer s H vs Q E hr h => ?_)⟩
  · obtain ⟨c, pn, pm, most, ms, x, y, z, rfl, _⟩ := h
    rfl
  obtain ⟨c, pn, pm, most, ms, x, y, z, rfl, hn, hm, om, m1, m5, q⟩ := h
  refine ⟨_, (pss_cons (ps_set (i := 4) scLawCode.nd rfl (Or.inl rfl) (pe_df DLawDigits hr pass0 (pa_cons (pv 0) (pa_cons (pe_op op_cat (pe_lst (pa_cons pe_int pa_nil)) (pe_op op_rep (pe_lst (pa_cons pe_int (pa_cons pe_int (pa_cons pe_int (pa_cons pe_int (pa_cons pe_int (pa_cons pe_int (pa_cons pe_int (pa_cons pe_int (pa_cons pe_int (pa_cons pe_int pa_nil))))))))))) pe_int)) pa_nil))))
  (pss_cons (ps_set (i := 5) scLawCode.nd rfl (Or.inl rfl) (pe_lst pa_nil))
  (pss_cons (ps_set (i := 6) scLawCode.nd rfl (Or.inl rfl) (pe_lst pa_nil))
  (pss_cons (ps_for PassesOwn.never rfl (pi_range1 rfl B.range (pa_cons (pe_op op_add pe_int (pe_op op_mod (pe_callTy call_int1 rfl B.int PyProof.Rows.boot_int (pa_cons (pe_ix ix_list (pv 4) pe_int (fun _ _ => rfl)) pa_nil)) (pv 3))) pa_nil)) (pg_name (i := 7) scLawCode.nd rfl (Or.inl rfl)) (pss_cons (ps_set (i := 8) scLawCode.nd rfl (Or.inl rfl) (pe_slice sl_list (pv 4) (po_some (pe_op op_add pe_int (pe_op op_mul pe_int (pv 7)))) (po_some (pe_op op_add pe_int (pe_op op_mul pe_int (pv 7))))))
  (pss_cons (ps_expr (pe_bm PySem.F.plainAttrs_list PySem.F.slot_list_append PySem.F.type_list_append mt_append (pv 5) (pa_cons (pe_df DLawLeaf hr pass0 (pa_cons (pv 8) (pa_cons (pv 1) (pa_cons (pv 2) pa_nil)))) pa_nil)))
  (pss_cons (ps_expr (pe_bm PySem.F.plainAttrs_list PySem.F.slot_list_append PySem.F.type_list_append mt_append (pv 6) (pa_cons pe_int pa_nil)))
  (pss_cut (ps_if (PW.pt (pw_and (pt_cmpR op_gt (pe_ix ix_list (pv 8) pe_int (fun _ _ => rfl)) pe_int (nomark _)) (pw_and1 (pt_cmpR op_gt (pe_callB call_len_seq rfl B.len PySem.boot_len (pa_cons (pv 6) pa_nil)) pe_int (nomark _))))) (pss_cons (ps_expr (pe_bm PySem.F.plainAttrs_list PySem.F.slot_list_append PySem.F.type_list_append mt_append (pv 5) (pa_cons (pe_tup (pa_cons (pe_ix ix_list (pe_lst (pa_cons pe_str (pa_cons pe_str pa_nil))) (pe_ix ix_list (pv 8) pe_int (fun _ _ => rfl)) (fun _ _ => rfl)) pa_nil)) pa_nil)))
  (pss_cons (ps_set (i := 9) scLawCode.nd rfl (Or.inl rfl) (pe_bm0 PySem.F.plainAttrs_list PySem.F.slot_list_pop PySem.F.type_list_pop mt_pop (pv 6)))
  (pss_one (ps_expr (pe_bm PySem.F.plainAttrs_list PySem.F.slot_list_append PySem.F.type_list_append mt_append (pv 6) (pa_cons (pe_op op_add (pe_callB (call_max2 rfl) rfl B.max PyProof.Rows.boot_max (pa_cons (pe_bm0 PySem.F.plainAttrs_list PySem.F.slot_list_pop PySem.F.type_list_pop mt_pop (pv 6)) (pa_cons (pv 9) pa_nil))) pe_int) pa_nil)))))) pss_nil)
  (pss_one (ps_if (PW.pt (pw_and (pt_cmpR op_eq (pe_ix ix_list (pv 8) pe_int (fun _ _ => rfl)) pe_int (nomark _)) (pw_and1 (pt_cmpR op_lt (pe_ix ix_list (pv 6) (pe_un un_neg pe_int) (fun _ _ => rfl)) pe_int (nomark _))))) (pss_cons (ps_expr (pe_bm PySem.F.plainAttrs_list PySem.F.slot_list_append PySem.F.type_list_append mt_append (pv 5) (pa_cons (pe_tup (pa_cons pe_str pa_nil)) pa_nil)))
  (pss_one (ps_expr (pe_bm PySem.F.plainAttrs_list PySem.F.slot_list_append PySem.F.type_list_append mt_append (pv 6) (pa_cons (pe_op op_add (pe_bm0 PySem.F.plainAttrs_list PySem.F.slot_list_pop PySem.F.type_list_pop mt_pop (pv 6)) pe_int) pa_nil))))) pss_nil)))))))
  (pss_cons (ps_for PassesOwn.never rfl (pi_range1 rfl B.range (pa_cons (pe_op op_sub (pe_callB call_len_seq rfl B.len PySem.boot_len (pa_cons (pv 6) pa_nil)) pe_int) pa_nil)) (pg_name (i := 7) scLawCode.nd rfl (Or.inl rfl)) (pss_cons (ps_expr (pe_bm PySem.F.plainAttrs_list PySem.F.slot_list_append PySem.F.type_list_append mt_append (pv 5) (pa_cons (pe_tup (pa_cons (pe_ix ix_list (pe_lst (pa_cons pe_str (pa_cons pe_str pa_nil))) (pe_ix ix_list (pv 4) (pe_op op_add pe_int (pe_op op_mul pe_int (pv 7))) (fun _ _ => rfl)) (fun _ _ => rfl)) pa_nil)) pa_nil)))
  (pss_cons (ps_set (i := 9) scLawCode.nd rfl (Or.inl rfl) (pe_bm0 PySem.F.plainAttrs_list PySem.F.slot_list_pop PySem.F.type_list_pop mt_pop (pv 6)))
  (pss_one (ps_expr (pe_bm PySem.F.plainAttrs_list PySem.F.slot_list_append PySem.F.type_list_append mt_append (pv 6) (pa_cons (pe_op op_add (pe_callB (call_max2 rfl) rfl B.max PyProof.Rows.boot_max (pa_cons (pe_bm0 PySem.F.plainAttrs_list PySem.F.slot_list_pop PySem.F.type_list_pop mt_pop (pv 6)) (pa_cons (pv 9) pa_nil))) pe_int) pa_nil)))))))
  (pss_one (ps_ret (pe_tup (pa_cons (pv 5) (pa_cons (pe_ix ix_list (pv 6) pe_int (fun _ _ => rfl)) pa_nil)))))))))), ?_⟩
  refine q_asgP (evp_digits bigSizes (ev_var rfl) (el_catLL (el_lst (ea_cons ev_c ea_nil) (by show 1 ≤ 100000; decide)) (el_rep (el_lst (ea_cons ev_c (ea_cons ev_c (ea_cons ev_c (ea_cons ev_c (ea_cons ev_c (ea_cons ev_c (ea_cons ev_c (ea_cons ev_c (ea_cons ev_c (ea_cons ev_c ea_nil)))))))))) (by show 10 ≤ 100000; decide)) ev_c (by decide) (by decide) (by show 10 * 5 ≤ 100000; decide)) (by show 1 + 50 ≤ 100000; decide)) rfl (by decide) (by decide)) fun v H1 e1 hv => ?_
  obtain ⟨pd, ds, rfl, ok, hd⟩ := hv
  have dl : ds.length = 51 := ok.1
  refine q_asgL (el_lst ea_nil (Nat.zero_le _)) fun pc H2 hpc e2 hc2 => ?_
  refine q_asgL (el_lst ea_nil (Nat.zero_le _)) fun pq H3 hpq e3 hq3 => ?_
  have ne : pc ≠ pq := ne_of_none hc2 hpq
  have st0 : Stk K H1 pc pq H3 (flat []) (depV []) := ⟨e2.trans e3, hpc, fresh_back e2 hpq, ne, ⟨[], e3 _ _ hc2, .nil⟩, hq3⟩
  have b0 := ok.at (j := 0) (by decide) (by decide)
  have mm : (0 : Int) < (most : Int) := by omega
  have k0 : 0 ≤ ds.getD (0 : Int).toNat 0 % (most : Int) := Int.emod_nonneg _ (by omega)
  have k1 : ds.getD (0 : Int).toNat 0 % (most : Int) < (most : Int) := Int.emod_lt_of_pos _ mm
  refine q_forR1 (n := 1 + ds.getD (0 : Int).toNat 0 % (most : Int)) (ea_cons (ev_op ev_c (ev_mod (ev_int (ev_op (ev_var rfl) ev_c (rv_ixL (sq_of (e3 _ _ (e2 _ _ hd))) (atI_ints (by decide) (by rw [dl]; decide))))) (ev_var rfl) mm) rv_I0) ea_nil) (by omega)
    (fun i σ' H' => ∃ (o7 o8 o9 : Option V) (ts : List Cl), σ' = [some (.int c), some (.ref pn), some (.ref pm), some (.int (most : Int)), some (.ref pd), some (.ref pc), some (.ref pq), o7, o8, o9] ∧ Stk K H1 pc pq H' (flat ts) (depV ts) ∧ Good ts ∧ many1 ts = i)
    (fun H4 e4 => ⟨none, none, none, [], rfl, st0.mo e4, (fun t ht => by simp at ht), rfl⟩) ?_ ?_
  · rintro i σ' H' hi ⟨o7, o8, o9, ts, rfl, st, gd, hm1⟩
    have i5 : i < 5 := by omega
    have hdq : SqL K H' pd (ds.map V.int) := sq_of (st.ex _ _ hd)
    have rok : DigOk rowSizes ((ds.drop (1 + 10 * i)).take 10) := by
      have k := ok.slice (1 + 10 * i) 10
      rw [rows_of i5] at k
      exact k
    refine q_asgL (el_sl (ev_var rfl) (eo_some (ev_op ev_c (ev_mul ev_c (ev_var rfl) (.inl ⟨by decide, by decide⟩)) rv_I0)) (eo_some (ev_op ev_c (ev_mul ev_c (ev_var rfl) (.inl ⟨by decide, by decide⟩)) rv_I0)) hdq) fun pr H4 hpr e4 hr4 => ?_
    have n1 : pr ≠ pc := by
      obtain ⟨vs, hv, _⟩ := st.code
      exact Ne.symm (ne_of_none hv hpr)
    have n2 : pr ≠ pq := Ne.symm (ne_of_none st.deps hpr)
    rw [cut_ints (1 + 10 * i) (11 + 10 * i) (by omega) (by omega) (by omega) (by rw [dl]; omega), show 11 + 10 * i - (1 + 10 * i) = 10 by omega] at hr4
    generalize (ds.drop (1 + 10 * i)).take 10 = rd at hr4 rok
    have rl : rd.length = 10 := rok.1
    have st4 := st.mo e4
    obtain ⟨vs, hv1, hv2⟩ := st4.code
    have tl : ts.length ≤ i := by rw [← hm1]; exact many1_le ts
    have fl := gd.len (by omega)
    have lpre : DigPre leafSizes rd := ⟨by rw [rl]; decide, fun j s d hs hd' => rok.2 j s d (by
      have hj : j < 7 := (List.getElem?_eq_some_iff.mp hs).1
      have k : j = 0 ∨ j = 1 ∨ j = 2 ∨ j = 3 ∨ j = 4 ∨ j = 5 ∨ j = 6 := by omega
      rcases k with rfl | rfl | rfl | rfl | rfl | rfl | rfl <;> exact hs) hd'⟩
    have d9 := rok.at (j := 9) (by decide) (by decide)
    refine q_appP hv1 (ev_var rfl) (evp_call (ea_cons (ev_var rfl) (ea_cons (ev_var rfl) (ea_cons (ev_var rfl) ea_nil))) (sv_leaf (sq_of hr4) lpre (((hn.ex e1).ex st.ex).ex e4) (ex_l ((e1.trans st.ex).trans e4) hm) om)) (by rw [hv2.1]; omega) fun v H5 e5 hleaf => ?_
    obtain ⟨lf, lg, lh, lr, lm, lok, lat⟩ := hleaf
    have st5 := (st4.mo e5).push (e5 _ _ hv1) (hv2.mo e5) lat
    have hr5 : (upd H5 pc (.lst (vs ++ [v]))) pr = some (.lst (rd.map V.int)) := by rw [upd_ne n1]; exact e5 _ _ hr4
    refine q_app st5.deps (ev_var rfl) ev_c (by rw [depV_len]; omega) fun H6 e6 => ?_
    have st6 := (st5.mo e6).dep (dv' := depV ts ++ [V.int 1])
    have hr6 : (upd H6 pq (.lst (depV ts ++ [V.int 1]))) pr = some (.lst (rd.map V.int)) := by rw [upd_ne n2]; exact e6 _ _ hr5
    generalize upd H6 pq (.lst (depV ts ++ [V.int 1])) = H7 at st6 hr6 ⊢
    refine q_cut (M := fun σ' H' => ∃ (o : Option V) (us : List Cl), σ' = [some (.int c), some (.ref pn), some (.ref pm), some (.int (most : Int)), some (.ref pd), some (.ref pc), some (.ref pq), some (.int (i : Int)), some (.ref pr), o] ∧ Stk K H1 pc pq H' (flat us) (depV us) ∧ Good us ∧ many1 us = i + 1 ∧
      us ≠ [] ∧ (∀ r t, us = r ++ [t] → t.leaves = 1 → t.depth = 1) ∧ H' pr = some (.lst (rd.map V.int))) ?_ ?_
    · have hrow : ∀ {H' : Hp}, Ex H7 H' → SqL K H' pr (rd.map V.int) := fun e => sq_of (e _ _ hr6)
      refine s_when (et_and (et_test (ev_op (ev_op (ev_var rfl) ev_c (rv_ixL (sq_of hr6) (atI_ints (by decide) (by rw [rl]; decide)))) ev_c rv_I0)) fun _ => et_test (ev_op (ev_lenQ (ev_var rfl) (.inl (sq_of st6.deps))) ev_c rv_I0)) (fun hb H8 e8 => ?_) fun hb H8 e8 => ?_
      · have h2 := of_decide_eq_true (Bool.and_eq_true_iff.mp hb).2
        rw [List.length_append, depV_len] at h2
        have hne : ts ≠ [] := fun z => by
          rw [z] at h2
          exact absurd h2 (by decide)
        obtain ⟨ts', t0, rfl⟩ := snoc_of hne
        have st8 := st6.mo e8
        obtain ⟨us, hu1, hu2⟩ := st8.code
        have hr8 := e8 _ _ hr6
        refine q_appP hu1 (ev_var rfl) (evp_word (ev_andOr (ev_op (ev_var rfl) ev_c (rv_ixL (sq_of hr8) (atI_ints (by decide) (by rw [rl]; decide)))) d9.1 d9.2) fun a H h => partAt_bin (K := K) _ h) (by rw [hu2.1, List.length_append]; show _ + 1 < _; omega) fun v2 H9 e9 hp2 => ?_
        generalize (!decide (rd.getD (9 : Int).toNat 0 = 0)) = sb at hp2
        have st9 := (st8.mo e9).push (e9 _ _ hu1) (hu2.mo e9) hp2
        have hr9 : (upd H9 pc (.lst (us ++ [v2]))) pr = some (.lst (rd.map V.int)) := by rw [upd_ne n1]; exact e9 _ _ hr8
        generalize upd H9 pc (.lst (us ++ [v2])) = H10 at st9 hr9 ⊢
        refine q_pop (i := 6) rfl st9.deps ?_
        have st10 := st9.dep (dv' := depV (ts' ++ [t0]))
        have hr10 : (upd H10 pq (.lst (depV (ts' ++ [t0])))) pr = some (.lst (rd.map V.int)) := by rw [upd_ne n2]; exact hr9
        generalize upd H10 pq (.lst (depV (ts' ++ [t0]))) = H11 at st10 hr10 ⊢
        have dd := st10.deps
        rw [depV_snoc] at dd
        have tl' : ts'.length + 1 ≤ i := by
          rw [List.length_append] at tl
          exact tl
        refine s_popMax (i := 6) (j := 9) rfl rfl dd (by rw [depV_len]; omega) ?_
        have st11 := st10.dep (dv' := depV ts' ++ [V.int ((if (1 : Int) > ((t0.depth : Nat) : Int) then 1 else ((t0.depth : Nat) : Int)) + 1)])
        have e1' : depV (ts' ++ [Cl.bin sb t0 (.is lf lg lh lr lm)]) = depV ts' ++ [V.int ((if (1 : Int) > ((t0.depth : Nat) : Int) then 1 else ((t0.depth : Nat) : Int)) + 1)] := by
          rw [depV_snoc, Cl.depth_bin]
          have k := max_int t0.depth 1
          rw [show (((1 : Nat) : Int)) = 1 from rfl] at k
          rw [k] <;> rfl
        have e2' : flat (ts' ++ [Cl.bin sb t0 (.is lf lg lh lr lm)]) = flat (ts' ++ [t0]) ++ [Pt.is lf lg lh lr lm] ++ [Pt.bin sb] := by
          rw [flat_snoc, flat_snoc, Cl.post_bin, List.append_assoc, List.append_assoc, List.append_assoc] <;> rfl
        rw [← e1', ← e2'] at st11
        rw [← e1']
        have g0 := gd.right
        have hl0 := t0.leaves_pos
        refine ⟨_, ts' ++ [Cl.bin sb t0 (.is lf lg lh lr lm)], rfl, st11, gd.left.snoc (Cl.ok_bin sb g0.1 lok) ?_, ?_, fun z => by simp at z, ?_, ?_⟩
        · rw [Cl.depth_bin, Cl.leaves_bin]
          show max t0.depth 1 + 1 ≤ t0.leaves + 1 + 2
          have := t0.pos
          have := g0.2
          omega
        · rw [many1_snoc] at hm1
          rw [many1_snoc, Cl.leaves_bin]
          show many1 ts' + (t0.leaves + 1) = i + 1
          omega
        · intro r t hrt h1
          have := (List.append_inj' hrt rfl).2
          have e := (List.cons.inj this).1
          rw [← e, Cl.leaves_bin] at h1
          have h1' : t0.leaves + 1 = 1 := h1
          omega
        · rw [upd_ne n2]
          exact hr10
      · refine ⟨_, ts ++ [.is lf lg lh lr lm], rfl, ?_, gd.snoc (t := .is lf lg lh lr lm) lok (by show 1 ≤ 1 + 2; decide), ?_, fun z => by simp at z, ?_, e8 _ _ hr6⟩
        · rw [flat_snoc, depV_snoc]
          exact st6.mo e8
        · rw [many1_snoc, hm1] <;> rfl
        · intro r t hrt h1
          have := (List.append_inj' hrt rfl).2
          have e := (List.cons.inj this).1
          rw [← e] <;> rfl
    · rintro σ' H' ⟨o, us, rfl, stu, gu, hmu, hne, htop, hru⟩
      obtain ⟨r, t, rfl⟩ := snoc_of hne
      have gt := gu.right
      have ul : r.length + 1 ≤ i + 1 := by
        have := many1_le (r ++ [t])
        rw [List.length_append, hmu] at this
        exact this
      have fu := gu.len (by omega)
      have dd := stu.deps
      rw [depV_snoc] at dd
      refine s_when (et_and (et_test (ev_intEq (ev_op (ev_var rfl) ev_c (rv_ixL (sq_of hru) (atI_ints (by decide) (by rw [rl]; decide)))) ev_c)) fun _ => et_test (ev_op (ev_op (ev_var rfl) (ev_un ev_c ru_neg) (rv_ixL (sq_of dd) (atI_last _ _))) ev_c rv_I0)) (fun hb H8 e8 => ?_) fun hb H8 e8 => ?_
      · have h4 := of_decide_eq_true (Bool.and_eq_true_iff.mp hb).2
        have st8 := stu.mo e8
        obtain ⟨ws, hw1, hw2⟩ := st8.code
        refine q_appP hw1 (ev_var rfl) (evp_word (K := K) (p := .not) ev_c fun a H h => ⟨a, rfl, h⟩) (by rw [hw2.1]; omega) fun v2 H9 e9 hp2 => ?_
        have st9 := (st8.mo e9).push (e9 _ _ hw1) (hw2.mo e9) hp2
        generalize upd H9 pc (.lst (ws ++ [v2])) = H10 at st9 ⊢
        have dd9 := st9.deps
        rw [depV_snoc] at dd9
        refine s_popOne (i := 6) rfl dd9 (by rw [depV_len]; omega) ?_
        have st10 := st9.dep (dv' := depV r ++ [V.int (((t.depth : Nat) : Int) + 1)])
        have e1' : depV (r ++ [.not t]) = depV r ++ [V.int (((t.depth : Nat) : Int) + 1)] := by rw [depV_snoc] <;> rfl
        have e2' : flat (r ++ [.not t]) = flat (r ++ [t]) ++ [Pt.not] := by rw [flat_snoc, flat_snoc, List.append_assoc] <;> rfl
        rw [← e1', ← e2'] at st10
        rw [← e1']
        refine ⟨_, _, _, r ++ [.not t], rfl, st10, gu.left.snoc gt.1 ?_, ?_⟩
        · show t.depth + 1 ≤ t.leaves + 2
          have := t.leaves_pos
          by_cases h1 : t.leaves = 1
          · have := htop r t rfl h1
            omega
          · omega
        · rw [many1_snoc] at hmu ⊢
          exact hmu
      · exact ⟨_, _, _, r ++ [t], rfl, stu.mo e8, gu, hmu⟩
  · rintro σ' H' ⟨o7, o8, o9, ts, rfl, st, gd, hm1⟩
    have tn : many1 ts ≤ most := by rw [hm1]; omega
    have t1 : 1 ≤ many1 ts := by rw [hm1]; omega
    have tne : ts ≠ [] := fun z => by
      rw [z] at t1
      exact absurd t1 (by decide)
    have tlen := many1_le ts
    have tpos : 1 ≤ ts.length := List.length_pos_iff.mpr tne
    clear hm1
    refine q_forR1 (n := ((depV ts).length : Int) - 1) (ea_cons (ev_op (ev_lenQ (ev_var rfl) (.inl (sq_of st.deps))) ev_c rv_I0) ea_nil) (by rw [depV_len]; omega)
      (fun i σ' H' => ∃ (o7 o8 o9 : Option V) (us : List Cl), σ' = [some (.int c), some (.ref pn), some (.ref pm), some (.int (most : Int)), some (.ref pd), some (.ref pc), some (.ref pq), o7, o8, o9] ∧ Stk K H1 pc pq H' (flat us) (depV us) ∧ Good us ∧ many1 us = many1 ts ∧ us.length + i = ts.length)
      (fun H4 e4 => ⟨o7, o8, o9, ts, rfl, st.mo e4, gd, rfl, rfl⟩) ?_ ?_
    · rintro i σ' H' hi ⟨p7, p8, p9, us, rfl, su, gu, hmu, hlu⟩
      rw [depV_len] at hi
      have une : us ≠ [] := fun z => by
        rw [z] at hlu
        have : 0 + i = ts.length := hlu
        omega
      obtain ⟨us1, tb, rfl⟩ := snoc_of une
      rw [List.length_append] at hlu
      have hlu' : us1.length + 1 + i = ts.length := hlu
      have une1 : us1 ≠ [] := fun z => by
        rw [z] at hlu'
        have : 0 + 1 + i = ts.length := hlu'
        omega
      obtain ⟨us2, ta, rfl⟩ := snoc_of une1
      rw [List.length_append] at hlu'
      have hlu2 : us2.length + 1 + 1 + i = ts.length := hlu'
      have hdq : SqL K H' pd (ds.map V.int) := sq_of (su.ex _ _ hd)
      have d10 : 0 ≤ ds.getD (10 + 10 * (i : Int)).toNat 0 ∧ ds.getD (10 + 10 * (i : Int)).toNat 0 < 2 := by
        have k := ok.at (j := 10 + 10 * (i : Int)) (by omega) (by show 10 + 10 * (i : Int) < 51; omega)
        have hi' : i = 0 ∨ i = 1 ∨ i = 2 ∨ i = 3 := by omega
        rcases hi' with rfl | rfl | rfl | rfl <;> exact k
      obtain ⟨ws, hw1, hw2⟩ := su.code
      have fu := gu.len (by omega)
      refine q_appP hw1 (ev_var rfl) (evp_word (ev_orAnd (ev_op (ev_var rfl) (ev_op ev_c (ev_mul ev_c (ev_var rfl) (.inl ⟨by decide, by decide⟩)) rv_I0) (rv_ixL hdq (atI_ints (by omega) (by rw [dl]; omega)))) d10.1 d10.2) fun a H h => partAt_bin (K := K) _ h) (by rw [hw2.1]; omega) fun v2 H9 e9 hp2 => ?_
      generalize decide (ds.getD (10 + 10 * (i : Int)).toNat 0 = 0) = sb at hp2
      have st9 := (su.mo e9).push (e9 _ _ hw1) (hw2.mo e9) hp2
      generalize upd H9 pc (.lst (ws ++ [v2])) = H10 at st9 ⊢
      have dd9 := st9.deps
      rw [depV_snoc] at dd9
      refine q_pop (i := 6) rfl dd9 ?_
      have st10 := st9.dep (dv' := depV (us2 ++ [ta]))
      generalize upd H10 pq (.lst (depV (us2 ++ [ta]))) = H11 at st10 ⊢
      have dd := st10.deps
      rw [depV_snoc] at dd
      refine s_popMax (i := 6) (j := 9) rfl rfl dd (by rw [depV_len]; omega) ?_
      have st11 := st10.dep (dv' := depV us2 ++ [V.int ((if ((tb.depth : Nat) : Int) > ((ta.depth : Nat) : Int) then ((tb.depth : Nat) : Int) else ((ta.depth : Nat) : Int)) + 1)])
      have e1' : depV (us2 ++ [Cl.bin sb ta tb]) = depV us2 ++ [V.int ((if ((tb.depth : Nat) : Int) > ((ta.depth : Nat) : Int) then ((tb.depth : Nat) : Int) else ((ta.depth : Nat) : Int)) + 1)] := by
        rw [depV_snoc, Cl.depth_bin, max_int ta.depth tb.depth]
      have e2' : flat (us2 ++ [Cl.bin sb ta tb]) = flat (us2 ++ [ta] ++ [tb]) ++ [Pt.bin sb] := by
        rw [flat_snoc, flat_snoc, flat_snoc, Cl.post_bin, List.append_assoc, List.append_assoc, List.append_assoc] <;> simp
      rw [← e1', ← e2'] at st11
      rw [← e1']
      have ga := gu.left.right
      have gb := gu.right
      refine ⟨_, _, _, us2 ++ [Cl.bin sb ta tb], rfl, st11, gu.left.left.snoc (Cl.ok_bin sb ga.1 gb.1) ?_, ?_, ?_⟩
      · rw [Cl.depth_bin, Cl.leaves_bin]
        have := ta.leaves_pos
        have := tb.leaves_pos
        have := ga.2
        have := gb.2
        omega
      · rw [many1_snoc, many1_snoc] at hmu
        rw [many1_snoc, Cl.leaves_bin]
        omega
      · rw [List.length_append]
        show us2.length + 1 + (i + 1) = ts.length
        omega
    · rintro σ' H' ⟨p7, p8, p9, us, rfl, su, gu, hmu, hlu⟩
      rw [depV_len] at hlu
      have hl1 : us.length = 1 := by omega
      match us, hl1 with
      | [t], _ =>
        have gt := gu t (List.mem_singleton.mpr rfl)
        have hq : H' pq = some (.lst [V.int (t.depth : Nat)]) := su.deps
        have hm2 : t.leaves = many1 ts := by
          rw [← hmu]
          show t.leaves = t.leaves + 0
          omega
        refine s_retP (evp_U (eu_tup (ea_cons (ev_var rfl) (ea_cons (ev_op (ev_var rfl) ev_c (rv_ixL (sq_of hq) (atI_zero _ _))) ea_nil)) (by show 2 ≤ 100000; decide)) (P := IsCodeD K t) fun p H9 e9 hp => ?_) fun v H9 e9 hv => q t gt.1 (by have := gt.2; omega) (by omega) v H9 ((e1.trans su.ex).trans e9) hv
        obtain ⟨ws, hw1, hw2⟩ := su.code
        have ef : flat [t] = t.post := by
          show t.post ++ [] = t.post
          rw [List.append_nil]
        rw [ef] at hw2
        exact ⟨p, pc, rfl, st_of hp, ws, e9 _ _ hw1, hw2.mo e9⟩
end
end Kf

set_option Elab.async false
set_option linter.all false
set_option maxRecDepth 100000
set_option maxHeartbeats 4000000
namespace Kf
open PySem L2 Evl
abbrev wrapRow : List Int := [3, 3, 199, 199, 199, 12, 12, 2, 2]
abbrev wrapSizes : List Int := [3, 3, 199, 199, 199, 12, 12, 2, 2, 3, 3, 199, 199, 199, 12, 12, 2, 2, 3, 3, 199, 199, 199, 12, 12, 2, 2, 3, 3, 199, 199, 199, 12, 12, 2, 2, 3, 3, 199, 199, 199, 12, 12, 2, 2, 3, 3, 199, 199, 199, 12, 12, 2, 2,
  3, 3, 199, 199, 199, 12, 12, 2, 2, 3, 3, 199, 199, 199, 12, 12, 2, 2, 3, 3, 199, 199, 199, 12, 12, 2, 2, 3, 3, 199, 199, 199, 12, 12, 2, 2, 3, 3, 199, 199, 199, 12, 12, 2, 2, 3, 3, 199, 199, 199, 12, 12, 2, 2]
def spWrapped (K : PySem.W.Frag) : Sp := fun vs H Q _ => ∃ (pc pn pm : Addr) (t : Cl) (goal : Nat) (c : Int) (ms : List Int) (x y z : Int), vs = [.ref pc, .int (t.depth : Nat), .int (goal : Int), .int c, .ref pn, .ref pm] ∧ CodeAt K H pc t.post ∧ t.Ok ∧ t.depth ≤ goal ∧ goal ≤ 12 ∧
  Sq K H pn [.int x, .int y, .int z] ∧ SqL K H pm (ms.map V.int) ∧ MenuOk ms ∧ ∀ u : Cl, u.Ok → u.depth = goal → u.leaves + t.depth ≤ t.leaves + goal → ∀ v H', Ex H H' → IsCode K u.post v H' → Q v H'
def spLcm (K : PySem.W.Frag) : Sp := fun vs H Q _ => ∃ (pc : Addr) (ps : List Pt), vs = [.ref pc] ∧ CodeAt K H pc ps ∧ (∀ p ∈ ps, PtOk p) ∧ RetV (.int (lcmP ps : Nat)) H Q
def spTrue (K : PySem.W.Frag) : Sp := fun vs H Q _ => ∃ (pc pr : Addr) (t : Cl) (x y z : Int), vs = [.ref pc, .ref pr] ∧ CodeAt K H pc t.post ∧ t.Ok ∧ t.depth ≤ 12 ∧ Sq K H pr [.int x, .int y, .int z] ∧ RetV (.bl (t.at x y z)) H Q
theorem wrap_rows {i : Nat} (h : i < 12) : (wrapSizes.drop (9 * i)).take 9 = wrapRow := by
  have k : i = 0 ∨ i = 1 ∨ i = 2 ∨ i = 3 ∨ i = 4 ∨ i = 5 ∨ i = 6 ∨ i = 7 ∨ i = 8 ∨ i = 9 ∨ i = 10 ∨ i = 11 := by omega
  rcases k with rfl | rfl | rfl | rfl | rfl | rfl | rfl | rfl | rfl | rfl | rfl | rfl <;> rfl
section
variable {P : Program} {w : World} {K : PySem.W.Frag} {mg : Str → Option Value} {base : Heap} {H : Hp}
/-- a part's first item is its word -/
def Pt.word : Pt → Str
  | .is .. => "is" | .not => "not" | .and => "and" | .or => "or"
theorem PartAt.head {v : V} {p : Pt} (h : PartAt K H v p) : ∃ a r, v = .ref a ∧ SqT K H a (.str p.word :: r) := by
  cases p with
  | is f g h r m => obtain ⟨a, b, x, y, z⟩ := h; exact ⟨a, _, x, y⟩
  | not => obtain ⟨a, x, y⟩ := h; exact ⟨a, _, x, y⟩
  | and => obtain ⟨a, x, y⟩ := h; exact ⟨a, _, x, y⟩
  | or => obtain ⟨a, x, y⟩ := h; exact ⟨a, _, x, y⟩
theorem df_wrapped (DLawDigits : Df P w K mg base CX0 "_law_digits" 1 ["cell", "sizes"] (spDigits K)) (DLawLeaf : Df P w K mg base CX0 "_law_leaf" 2 ["digits", "near", "menu"] (spLeaf K)) (B : Bi mg) (S : At K mg "_law_wrapped" sLawWrapped ["code", "depth", "goal", "cell", "near", "menu"]) :
    Df P w K mg base CX0 "_law_wrapped" 3 ["code", "depth", "goal", "cell", "near", "menu"] (spWrapped K) := by
  obtain ⟨f, fd, F, m, b⟩ := S
  refine ⟨f, fd, m, F.kp, b, F.ok scLawWrapped (fun vs H Q E h => ?_) (fun cdv A outer s H vs Q E hr h => ?_)⟩
  · obtain ⟨pc, pn, pm, t, goal, c, ms, x, y, z, rfl, _⟩ := h
    rfl
  obtain ⟨pc, pn, pm, t, goal, c, ms, x, y, z, rfl, hc, tok, tg, g12, hn, hm, om, q⟩ := h
  refine ⟨_, (pss_cons (ps_set (i := 6) scLawWrapped.nd rfl (Or.inl rfl) (pe_df DLawDigits hr pass0 (pa_cons (pv 3) (pa_cons (pe_op op_rep (pe_lst (pa_cons pe_int (pa_cons pe_int (pa_cons pe_int (pa_cons pe_int (pa_cons pe_int (pa_cons pe_int (pa_cons pe_int (pa_cons pe_int (pa_cons pe_int pa_nil)))))))))) pe_int) pa_nil))))
  (pss_cons (ps_for PassesOwn.never rfl (pi_range1 rfl B.range (pa_cons (pe_op op_sub (pv 2) (pv 1)) pa_nil)) (pg_name (i := 7) scLawWrapped.nd rfl (Or.inl rfl)) (pss_cons (ps_set (i := 8) scLawWrapped.nd rfl (Or.inl rfl) (pe_slice sl_list (pv 6) (po_some (pe_op op_mul pe_int (pv 7))) (po_some (pe_op op_add (pe_op op_mul pe_int (pv 7)) pe_int))))
  (pss_cons (ps_set (i := 9) scLawWrapped.nd rfl (Or.inl rfl) (pe_df DLawLeaf hr pass0 (pa_cons (pe_lst (pa_cons (pe_ix ix_list (pv 8) pe_int (fun _ _ => rfl)) (pa_cons (pe_ix ix_list (pv 8) pe_int (fun _ _ => rfl)) (pa_cons (pe_ix ix_list (pv 8) pe_int (fun _ _ => rfl)) (pa_cons (pe_ix ix_list (pv 8) pe_int (fun _ _ => rfl)) (pa_cons (pe_ix ix_list (pv 8) pe_int (fun _ _ => rfl)) (pa_cons (pe_ix ix_list (pv 8) pe_int (fun _ _ => rfl)) (pa_cons (pe_ix ix_list (pv 8) pe_int (fun _ _ => rfl)) pa_nil)))))))) (pa_cons (pv 4) (pa_cons (pv 5) pa_nil)))))
  (pss_cons (ps_set (i := 10) scLawWrapped.nd rfl (Or.inl rfl) (pe_ix ix_list (pe_lst (pa_cons pe_str (pa_cons pe_str pa_nil))) (pe_ix ix_list (pv 8) pe_int (fun _ _ => rfl)) (fun _ _ => rfl)))
  (pss_one (ps_if (pt_cmpR op_eq (pe_ix ix_list (pv 8) pe_int (fun _ _ => rfl)) pe_int (nomark _)) (pss_one (ps_set (i := 0) scLawWrapped.nd rfl (Or.inl rfl) (pe_op op_cat (pv 0) (pe_lst (pa_cons (pe_tup (pa_cons pe_str pa_nil)) pa_nil))))) (pss_one (ps_if (pt_cmpR op_eq (pe_ix ix_list (pv 8) pe_int (fun _ _ => rfl)) pe_int (nomark _)) (pss_one (ps_set (i := 0) scLawWrapped.nd rfl (Or.inl rfl) (pe_op op_cat (pv 0) (pe_lst (pa_cons (pv 9) (pa_cons (pe_tup (pa_cons (pv 10) pa_nil)) pa_nil)))))) (pss_one (ps_set (i := 0) scLawWrapped.nd rfl (Or.inl rfl) (pe_op op_cat (pe_op op_cat (pe_lst (pa_cons (pv 9) pa_nil)) (pv 0)) (pe_lst (pa_cons (pe_tup (pa_cons (pv 10) pa_nil)) pa_nil)))))))))))))
  (pss_one (ps_ret (pv 0))))), ?_⟩
  refine q_asgP (evp_digits wrapSizes (ev_var rfl) (el_rep (el_lst (ea_cons ev_c (ea_cons ev_c (ea_cons ev_c (ea_cons ev_c (ea_cons ev_c (ea_cons ev_c (ea_cons ev_c (ea_cons ev_c (ea_cons ev_c ea_nil))))))))) (by show 9 ≤ 100000; decide)) ev_c (by decide) (by decide) (by show 9 * 12 ≤ 100000; decide)) rfl (by decide) (by decide)) fun v H1 e1 hv => ?_
  obtain ⟨pd, ds, rfl, ok, hd⟩ := hv
  have dl : ds.length = 108 := ok.1
  have tpos := t.pos
  refine q_forR1 (n := (goal : Int) - ((t.depth : Nat) : Int)) (ea_cons (ev_op (ev_var rfl) (ev_var rfl) rv_I0) ea_nil) (by omega)
    (fun i σ' H' => ∃ (pc' : Addr) (u : Cl) (o7 o8 o9 o10 : Option V), σ' = [some (.ref pc'), some (.int (t.depth : Nat)), some (.int (goal : Int)), some (.int c), some (.ref pn), some (.ref pm), some (.ref pd), o7, o8, o9, o10] ∧ CodeAt K H' pc' u.post ∧ u.Ok ∧ u.depth = t.depth + i ∧ u.leaves ≤ t.leaves + i ∧ Ex H1 H')
    (fun H2 e2 => ⟨pc, t, none, none, none, none, rfl, (hc.mo e1).mo e2, tok, rfl, Nat.le_refl _, e2⟩) ?_ ?_
  · rintro i σ' H' hi ⟨pc', u, o7, o8, o9, o10, rfl, hcu, uok, hud, hul, e2⟩
    have i12 : i < 12 := by omega
    have hdq : SqL K H' pd (ds.map V.int) := sq_of (e2 _ _ hd)
    have rok : DigOk wrapRow ((ds.drop (9 * i)).take 9) := by
      have k := ok.slice (9 * i) 9
      rw [wrap_rows i12] at k
      exact k
    refine q_asgL (el_sl (ev_var rfl) (eo_some (ev_mul ev_c (ev_var rfl) (.inl ⟨by decide, by decide⟩))) (eo_some (ev_op (ev_mul ev_c (ev_var rfl) (.inl ⟨by decide, by decide⟩)) ev_c rv_I0)) hdq) fun pr H4 hpr e4 hr4 => ?_
    rw [cut_ints (9 * i) (9 * i + 9) (by omega) (by omega) (by omega) (by rw [dl]; omega), show 9 * i + 9 - 9 * i = 9 by omega] at hr4
    generalize (ds.drop (9 * i)).take 9 = rd at hr4 rok
    have rl : rd.length = 9 := rok.1
    match rd, rl with
    | [r0, r1, r2, r3, r4, r5, r6, r7, r8], _ =>
    have hr4q : SqL K H4 pr [.int r0, .int r1, .int r2, .int r3, .int r4, .int r5, .int r6, .int r7, .int r8] := sq_of hr4
    have lok7 : DigPre leafSizes [r1, r2, r3, r4, r5, r6, r7] := ⟨Nat.le_refl 7, fun j s d hs hd' => rok.2 (j + 1) s d (by
      have hj : j < 7 := (List.getElem?_eq_some_iff.mp hs).1
      have k : j = 0 ∨ j = 1 ∨ j = 2 ∨ j = 3 ∨ j = 4 ∨ j = 5 ∨ j = 6 := by omega
      rcases k with rfl | rfl | rfl | rfl | rfl | rfl | rfl <;> exact hs) (by
      have hj : j < 7 := (List.getElem?_eq_some_iff.mp hs).1
      have k : j = 0 ∨ j = 1 ∨ j = 2 ∨ j = 3 ∨ j = 4 ∨ j = 5 ∨ j = 6 := by omega
      rcases k with rfl | rfl | rfl | rfl | rfl | rfl | rfl <;> exact hd')⟩
    have b0 := rok.2 0 3 r0 rfl rfl
    have b8 := rok.2 8 2 r8 rfl rfl
    have ix : ∀ {H' : Hp} {j : Int} {v : V} {σ : L2.St}, Ex H4 H' → σ[8]? = some (some (.ref pr)) → atI [V.int r0, .int r1, .int r2, .int r3, .int r4, .int r5, .int r6, .int r7, .int r8] j = some v → Ev (tOp (rIxL K) (tVar 8) (tC (.int j))) σ H' v := fun e hs h => ev_op (ev_var hs) ev_c (rv_ixL (ex_l e hr4q) h)
    refine q_asgP (evp_callP (R := fun vs H5 => ∃ pl, vs = [.ref pl, .ref pn, .ref pm] ∧ H5 pl = some (.lst (([r1, r2, r3, r4, r5, r6, r7] : List Int).map V.int))) ?_ fun vs H5 e5 hv => ?_) (P := IsLeaf K) fun v H5 e5 hleaf => ?_
    · refine eap_cons (P := IsL (([r1, r2, r3, r4, r5, r6, r7] : List Int).map V.int)) (evp_L (el_lst (ea_cons (ix (Ex.refl _) rfl rfl) (ea_cons (ix (Ex.refl _) rfl rfl) (ea_cons (ix (Ex.refl _) rfl rfl) (ea_cons (ix (Ex.refl _) rfl rfl) (ea_cons (ix (Ex.refl _) rfl rfl) (ea_cons (ix (Ex.refl _) rfl rfl) (ea_cons (ix (Ex.refl _) rfl rfl) ea_nil))))))) (by show 7 ≤ 100000; decide)) fun p H2 _ h2 => ⟨p, rfl, h2⟩) fun v H5 e5 hv => ?_
      obtain ⟨pl, rfl, hpl⟩ := hv
      exact fun H6 e6 Q' q' => ⟨_, rfl, _, rfl, q' [.ref pn, .ref pm] H6 (Ex.refl H6) ⟨pl, rfl, e6 _ _ hpl⟩⟩
    · obtain ⟨pl, rfl, hpl⟩ := hv
      exact sv_leaf (sq_of hpl) lok7 ((((hn.ex e1).ex e2).ex e4).ex e5) (ex_l (((e1.trans e2).trans e4).trans e5) hm) om
    obtain ⟨lf, lg, lh, lr, lm, lok, lat⟩ := hleaf
    have e14 := (e2.trans e4).trans e5
    have hcu5 := (hcu.mo e4).mo e5
    have pl := Cl.post_small (c := u) (by omega)
    have done : ∀ {H9 : Hp} {pc2 : Addr} {u' : Cl} {o7 o8 o9 o10 : Option V}, CodeAt K H9 pc2 u'.post → u'.Ok → u'.depth = u.depth + 1 → u'.leaves ≤ u.leaves + 1 → Ex H5 H9 → ∃ (pc' : Addr) (u : Cl) (o7' o8' o9' o10' : Option V), [some (.ref pc2), some (.int (t.depth : Nat)), some (.int (goal : Int)), some (.int c), some (.ref pn), some (.ref pm), some (.ref pd), o7, o8, o9, o10] =
        [some (.ref pc'), some (.int (t.depth : Nat)), some (.int (goal : Int)), some (.int c), some (.ref pn), some (.ref pm), some (.ref pd), o7', o8', o9', o10'] ∧ CodeAt K H9 pc' u.post ∧ u.Ok ∧ u.depth = t.depth + (i + 1) ∧ u.leaves ≤ t.leaves + (i + 1) ∧ Ex H1 H9 :=
      fun h1 h2 h3 h5 h4 => ⟨_, _, _, _, _, _, rfl, h1, h2, by omega, by omega, e14.trans h4⟩
    refine q_asg (ev_andOr (ix e5 rfl rfl) b8.1 b8.2) fun H6 e6 => ?_
    generalize (!decide (r8 = 0)) = sb
    refine s_if (et_test (ev_intEq (ix (e5.trans e6) rfl rfl) ev_c)) (fun hb H7 e7 => ?_) fun hb H7 e7 => ?_
    · refine s_asgP (evp_catC (K := K) (evp_var rfl fun H8 e8 => ⟨pc', rfl, ((hcu5.mo e6).mo e7).mo e8⟩) (fun H8 e8 => evp_lstC (eapt_cons (evp_word (K := K) (p := .not) ev_c fun a H h => ⟨a, rfl, h⟩) fun _ _ => eapt_nil) (by show 1 ≤ 100000; decide)) (by show _ + 1 ≤ _; omega)) fun v8 H8 e8 hv => ?_
      obtain ⟨pc2, rfl, hc2⟩ := hv
      exact done (u' := .not u) hc2 uok rfl (Nat.le_succ _) ((e6.trans e7).trans e8)
    · refine s_if (et_test (ev_intEq (ix ((e5.trans e6).trans e7) rfl rfl) ev_c)) (fun hb2 H8 e8 => ?_) fun hb2 H8 e8 => ?_
      · have lat8 := (lat.mo ((e6.trans e7).trans e8))
        refine s_asgP (evp_catC (K := K) (evp_var rfl fun H9 e9 => ⟨pc', rfl, (((hcu5.mo e6).mo e7).mo e8).mo e9⟩) (fun H9 e9 => evp_lstC (eapt_cons (evp_var rfl fun H10 e10 => lat8.mo (e9.trans e10)) fun _ _ => eapt_cons (evp_word (K := K) (ev_var rfl) fun a H h => partAt_bin (K := K) sb h) fun _ _ => eapt_nil) (by show 2 ≤ 100000; decide)) (by show _ + 2 ≤ _; omega)) fun v9 H9 e9 hv => ?_
        obtain ⟨pc2, rfl, hc2⟩ := hv
        have ep : (Cl.bin sb u (.is lf lg lh lr lm)).post = u.post ++ [Pt.is lf lg lh lr lm, Pt.bin sb] := by rw [Cl.post_bin, List.append_assoc] <;> rfl
        rw [← ep] at hc2
        exact done hc2 (Cl.ok_bin sb uok lok) (by rw [Cl.depth_bin]; show max u.depth 1 + 1 = _; have := u.pos; omega) (by rw [Cl.leaves_bin]; show _ + 1 ≤ _ + 1; omega) (((e6.trans e7).trans e8).trans e9)
      · have lat8 := (lat.mo ((e6.trans e7).trans e8))
        refine s_asgP (evp_catC (K := K) (evp_catC (K := K) (evp_lstC (eapt_cons (evp_var rfl fun H10 e10 => lat8.mo e10) fun _ _ => eapt_nil) (by show 1 ≤ 100000; decide)) (fun H9 e9 => evp_var rfl fun H10 e10 => ⟨pc', rfl, (((hcu5.mo e6).mo e7).mo e8).mo (e9.trans e10)⟩) (by show 1 + _ ≤ _; omega))
          (fun H9 e9 => evp_lstC (eapt_cons (evp_word (K := K) (ev_var rfl) fun a H h => partAt_bin (K := K) sb h) fun _ _ => eapt_nil) (by show 1 ≤ 100000; decide)) (by rw [List.length_append]; show 1 + _ + 1 ≤ _; omega)) fun v9 H9 e9 hv => ?_
        obtain ⟨pc2, rfl, hc2⟩ := hv
        have ep : (Cl.bin sb (.is lf lg lh lr lm) u).post = [Pt.is lf lg lh lr lm] ++ u.post ++ [Pt.bin sb] := Cl.post_bin sb _ _
        rw [← ep] at hc2
        exact done hc2 (Cl.ok_bin sb lok uok) (by rw [Cl.depth_bin]; show max 1 u.depth + 1 = _; have := u.pos; omega) (by rw [Cl.leaves_bin]; show 1 + _ ≤ _ + 1; omega) (((e6.trans e7).trans e8).trans e9)
  · rintro σ' H' ⟨pc', u, o7, o8, o9, o10, rfl, hcu, uok, hud, hul, e2⟩
    exact s_ret (ev_var rfl) fun H3 e3 => q u uok (by omega) (by omega) _ _ ((e1.trans e2).trans e3) ⟨pc', rfl, hcu.mo e3⟩
end
end Kf

set_option Elab.async false
set_option linter.all false
set_option maxRecDepth 100000
set_option maxHeartbeats 4000000
namespace Kf
open PySem L2 Evl
/-! ### the first bad part of data, as a path -/
def fkids (f : Py → List Int → Option (List Int)) : List Py → Int → List Int → Option (List Int)
  | [], _, _ => none
  | k :: ks, i, p => match f k (p ++ [i]) with
    | some b => some b
    | none => fkids f ks (i + 1) p
def kidsOf (d : Py) : List Py := match d.seq with
  | some (.str w :: ks) => if w = "is" then [] else ks
  | _ => []
/-- fuel: how many steps are left -/
def fbad : Nat → Py → List Int → Option (List Int)
  | 0, _, p => some p
  | n + 1, d, p => if shapeB d p.length then fkids (fbad n) (kidsOf d) 1 p else some p
/-- bad wherever it stands -/
def BadD (d : Py) : Prop := ∀ ds, d.seq = some ds → rightB ds = false
theorem bad_shape {d : Py} (h : BadD d) (n : Nat) : shapeB d n = false := by
  unfold shapeB
  cases e : d.seq with
  | none => rfl
  | some ds =>
    show (decide (n < 8) && rightB ds) = false
    rw [h ds e, Bool.and_false]
theorem fkids_nil {f : Py → List Int → Option (List Int)} {i : Int} {p : List Int} : fkids f [] i p = none := rfl
theorem fkids_some {f : Py → List Int → Option (List Int)} {k : Py} {ks : List Py} {i : Int} {p b : List Int} (h : f k (p ++ [i]) = some b) : fkids f (k :: ks) i p = some b := by
  show (match f k (p ++ [i]) with
    | some b => some b
    | none => fkids f ks (i + 1) p) = some b
  rw [h]
theorem fkids_none {f : Py → List Int → Option (List Int)} {k : Py} {ks : List Py} {i : Int} {p : List Int} (h : f k (p ++ [i]) = none) : fkids f (k :: ks) i p = fkids f ks (i + 1) p := by
  show (match f k (p ++ [i]) with
    | some b => some b
    | none => fkids f ks (i + 1) p) = _
  rw [h]

/-! ### trees with strange data in them -/
inductive Tr where
  | is (f g h r m : Int) | not (c : Tr) | bin (o : Bool) (a b : Tr) | x (d : Py)
def Tr.data : Tr → Py
  | .is f g h r m => .lst [.str "is", .lst [.int f, .int g, .int h], .int r, .int m]
  | .not c => .lst [.str "not", c.data]
  | .bin o a b => .lst [.str (binW o), a.data, b.data]
  | .x d => d
def Tr.size : Tr → Nat
  | .is .. => 1
  | .not c => c.size + 1
  | .bin _ a b => a.size + b.size + 1
  | .x _ => 1
def Tr.paths : Tr → List (List Int)
  | .is .. => [[]]
  | .not c => [] :: c.paths.map (1 :: ·)
  | .bin _ a b => [] :: (a.paths.map (1 :: ·) ++ b.paths.map (2 :: ·))
  | .x _ => [[]]
/-- leaves right, strange data bad -/
def Tr.Ok : Tr → Prop
  | .is f g h r m => LeafOk f g h r m
  | .not c => c.Ok
  | .bin _ a b => a.Ok ∧ b.Ok
  | .x d => BadD d
def Tr.real : Tr → Nat → Bool
  | .x _, _ => false
  | .is .., i => i == 0
  | .not _, 0 => true
  | .not c, i + 1 => c.real i
  | .bin .., 0 => true
  | .bin _ a b, i + 1 => if i < a.size then a.real i else b.real (i - a.size)
def Tr.put : Tr → Nat → Tr → Tr
  | _, 0, u => u
  | .not c, i + 1, u => .not (c.put i u)
  | .bin o a b, i + 1, u => if i < a.size then .bin o (a.put i u) b else .bin o a (b.put (i - a.size) u)
  | t, _ + 1, _ => t
/-- the place of the first bad part, or the size -/
def Tr.first : Nat → Tr → Nat
  | 0, _ => 0
  | _ + 1, .x _ => 0
  | _ + 1, .is .. => 1
  | n + 1, .not c => Tr.first n c + 1
  | n + 1, .bin _ a b => if Tr.first n a < a.size then Tr.first n a + 1 else a.size + Tr.first n b + 1
def Tr.depth : Tr → Nat
  | .is .. => 1
  | .not c => c.depth + 1
  | .bin _ a b => max a.depth b.depth + 1
  | .x _ => 1
theorem Tr.size_pos : ∀ t : Tr, 1 ≤ t.size
  | .is .. => Nat.le_refl 1
  | .not _ => Nat.succ_le_succ (Nat.zero_le _)
  | .bin .. => Nat.succ_le_succ (Nat.zero_le _)
  | .x _ => Nat.le_refl 1
theorem Tr.paths_len : ∀ t : Tr, t.paths.length = t.size
  | .is .. => rfl
  | .not c => by
    show (c.paths.map (1 :: ·)).length + 1 = c.size + 1
    rw [List.length_map, c.paths_len]
  | .bin _ a b => by
    show (a.paths.map (1 :: ·) ++ b.paths.map (2 :: ·)).length + 1 = a.size + b.size + 1
    rw [List.length_append, List.length_map, List.length_map, a.paths_len, b.paths_len]
  | .x _ => rfl
theorem Tr.path_zero (t : Tr) : t.paths[0]? = some [] := by cases t <;> rfl
theorem Tr.path_not {c : Tr} {i : Nat} : (Tr.not c).paths[i + 1]? = (c.paths[i]?).map (1 :: ·) := by
  show (c.paths.map (1 :: ·))[i]? = _
  rw [List.getElem?_map]
theorem Tr.path_bin {o : Bool} {a b : Tr} {i : Nat} : (Tr.bin o a b).paths[i + 1]? = if i < a.size then (a.paths[i]?).map (1 :: ·) else (b.paths[i - a.size]?).map (2 :: ·) := by
  show (a.paths.map (1 :: ·) ++ b.paths.map (2 :: ·))[i]? = _
  by_cases h : i < a.size
  · rw [if_pos h, List.getElem?_append_left (by rw [List.length_map, a.paths_len]; exact h), List.getElem?_map]
  · rw [if_neg h, List.getElem?_append_right (by rw [List.length_map, a.paths_len]; omega), List.length_map, a.paths_len, List.getElem?_map]
theorem Tr.first_le : ∀ (n : Nat) (t : Tr), Tr.first n t ≤ t.size
  | 0, t => Nat.zero_le _
  | _ + 1, .x _ => Nat.zero_le _
  | _ + 1, .is .. => Nat.le_refl 1
  | n + 1, .not c => Nat.succ_le_succ (Tr.first_le n c)
  | n + 1, .bin _ a b => by
    have h1 := Tr.first_le n a
    have h2 := Tr.first_le n b
    show (if Tr.first n a < a.size then Tr.first n a + 1 else a.size + Tr.first n b + 1) ≤ a.size + b.size + 1
    split <;> omega
theorem Tr.put_gt (u : Tr) : ∀ (t : Tr) (i : Nat), i < t.size → i < (t.put i u).size
  | t, 0, _ => by
    have := u.size_pos
    cases t <;> exact this
  | .x _, i + 1, h => absurd h (by show ¬ i + 1 < 1; omega)
  | .is .., i + 1, h => absurd h (by show ¬ i + 1 < 1; omega)
  | .not c, i + 1, h => Nat.succ_lt_succ (Tr.put_gt u c i (Nat.lt_of_succ_lt_succ h))
  | .bin o a b, i + 1, h => by
    have h' : i + 1 < a.size + b.size + 1 := h
    show i + 1 < (if i < a.size then Tr.bin o (a.put i u) b else .bin o a (b.put (i - a.size) u)).size
    by_cases hi : i < a.size
    · have k := Tr.put_gt u a i hi
      rw [if_pos hi]
      show i + 1 < (a.put i u).size + b.size + 1
      omega
    · have k := Tr.put_gt u b (i - a.size) (by omega)
      rw [if_neg hi]
      show i + 1 < a.size + (b.put (i - a.size) u).size + 1
      omega
theorem Tr.path_put (u : Tr) : ∀ (t : Tr) (i j : Nat), j ≤ i → i < t.size → (t.put i u).paths[j]? = t.paths[j]?
  | t, i, 0, _, _ => by rw [Tr.path_zero, Tr.path_zero]
  | t, 0, j + 1, h, _ => absurd h (by omega)
  | .x _, i + 1, j + 1, _, h => absurd h (by show ¬ i + 1 < 1; omega)
  | .is .., i + 1, j + 1, _, h => absurd h (by show ¬ i + 1 < 1; omega)
  | .not c, i + 1, j + 1, hj, h => by
    show (Tr.not (c.put i u)).paths[j + 1]? = _
    rw [Tr.path_not, Tr.path_not, Tr.path_put u c i j (by omega) (Nat.lt_of_succ_lt_succ h)]
  | .bin o a b, i + 1, j + 1, hj, h => by
    have h' : i + 1 < a.size + b.size + 1 := h
    show (if i < a.size then Tr.bin o (a.put i u) b else .bin o a (b.put (i - a.size) u)).paths[j + 1]? = _
    by_cases hi : i < a.size
    · have k := Tr.put_gt u a i hi
      rw [if_pos hi, Tr.path_bin, Tr.path_bin, if_pos (by omega), if_pos (by omega), Tr.path_put u a i j (by omega) hi]
    · rw [if_neg hi, Tr.path_bin, Tr.path_bin]
      by_cases hk : j < a.size
      · rw [if_pos hk, if_pos hk]
      · rw [if_neg hk, if_neg hk, Tr.path_put u b (i - a.size) (j - a.size) (by omega) (by omega)]
theorem Tr.real_put (u : Tr) : ∀ (t : Tr) (i j : Nat), j < i → i < t.size → (t.put i u).real j = t.real j
  | t, 0, j, h, _ => absurd h (by omega)
  | .x _, i + 1, j, _, h => absurd h (by show ¬ i + 1 < 1; omega)
  | .is .., i + 1, j, _, h => absurd h (by show ¬ i + 1 < 1; omega)
  | .not c, i + 1, 0, _, _ => rfl
  | .not c, i + 1, j + 1, hj, h => Tr.real_put u c i j (by omega) (Nat.lt_of_succ_lt_succ h)
  | .bin o a b, i + 1, 0, _, _ => by
    show (if i < a.size then Tr.bin o (a.put i u) b else .bin o a (b.put (i - a.size) u)).real 0 = true
    split <;> rfl
  | .bin o a b, i + 1, j + 1, hj, h => by
    have h' : i + 1 < a.size + b.size + 1 := h
    show (if i < a.size then Tr.bin o (a.put i u) b else .bin o a (b.put (i - a.size) u)).real (j + 1) = if j < a.size then a.real j else b.real (j - a.size)
    by_cases hi : i < a.size
    · have k := Tr.put_gt u a i hi
      rw [if_pos hi]
      show (if j < (a.put i u).size then (a.put i u).real j else b.real (j - (a.put i u).size)) = _
      rw [if_pos (by omega), if_pos (by omega), Tr.real_put u a i j (by omega) hi]
    · rw [if_neg hi]
      show (if j < a.size then a.real j else (b.put (i - a.size) u).real (j - a.size)) = _
      by_cases hk : j < a.size
      · rw [if_pos hk, if_pos hk]
      · rw [if_neg hk, if_neg hk, Tr.real_put u b (i - a.size) (j - a.size) (by omega) (by omega)]
theorem Tr.first_put (d : Py) : ∀ (n : Nat) (t : Tr) (i : Nat), i < t.size → Tr.first n (t.put i (.x d)) = min i (Tr.first n t)
  | 0, t, i, _ => (Nat.min_eq_right (Nat.zero_le i)).symm
  | n + 1, t, 0, _ => by
    rw [Nat.zero_min]
    cases t <;> rfl
  | n + 1, .x _, i + 1, h => absurd h (by show ¬ i + 1 < 1; omega)
  | n + 1, .is .., i + 1, h => absurd h (by show ¬ i + 1 < 1; omega)
  | n + 1, .not c, i + 1, h => by
    have k := Tr.first_put d n c i (Nat.lt_of_succ_lt_succ h)
    show Tr.first n (c.put i (.x d)) + 1 = min (i + 1) (Tr.first n c + 1)
    rw [k]
    omega
  | n + 1, .bin o a b, i + 1, h => by
    have h' : i + 1 < a.size + b.size + 1 := h
    have la := Tr.first_le n a
    have lb := Tr.first_le n b
    show Tr.first (n + 1) (if i < a.size then .bin o (a.put i (.x d)) b else .bin o a (b.put (i - a.size) (.x d))) = min (i + 1) (if Tr.first n a < a.size then Tr.first n a + 1 else a.size + Tr.first n b + 1)
    by_cases hi : i < a.size
    · have k := Tr.first_put d n a i hi
      have ls := Tr.put_gt (.x d) a i hi
      rw [if_pos hi]
      show (if Tr.first n (a.put i (.x d)) < (a.put i (.x d)).size then Tr.first n (a.put i (.x d)) + 1 else (a.put i (.x d)).size + Tr.first n b + 1) = _
      rw [k, if_pos (by omega)]
      split <;> omega
    · have k := Tr.first_put d n b (i - a.size) (by omega)
      rw [if_neg hi]
      show (if Tr.first n a < a.size then Tr.first n a + 1 else a.size + Tr.first n (b.put (i - a.size) (.x d)) + 1) = _
      rw [k]
      split <;> omega
theorem shape_leaf {f g h r m : Int} {n : Nat} (ok : LeafOk f g h r m) (hn : n < 8) : shapeB (Tr.is f g h r m).data n = true := shape_cl (c := .is f g h r m) ok ⟨_, rfl, rfl⟩ hn
theorem shape_not {c : Py} {n : Nat} (hn : n < 8) : shapeB (.lst [.str "not", c]) n = true := by
  show (decide (n < 8) && rightB [.str "not", c]) = true
  rw [rightB_other arity_not (by decide +kernel), decide_eq_true hn] <;> rfl
theorem shape_bin {o : Bool} {c d : Py} {n : Nat} (hn : n < 8) : shapeB (.lst [.str (binW o), c, d]) n = true := by
  show (decide (n < 8) && rightB [.str (binW o), c, d]) = true
  cases o
  · rw [rightB_other arity_and (by decide +kernel), decide_eq_true hn] <;> rfl
  · rw [rightB_other arity_or (by decide +kernel), decide_eq_true hn] <;> rfl
theorem kids_is {f g h r m : Int} : kidsOf (Tr.is f g h r m).data = [] := rfl
theorem kids_not {c : Py} : kidsOf (.lst [.str "not", c]) = [c] := by
  show (if ("not" : Str) = "is" then [] else [c]) = [c]
  exact if_neg (by decide +kernel)
theorem kids_bin {o : Bool} {c d : Py} : kidsOf (.lst [.str (binW o), c, d]) = [c, d] := by
  show (if binW o = "is" then [] else [c, d]) = [c, d]
  exact if_neg (by cases o <;> decide +kernel)
theorem map_some {α β : Type} {f : α → β} {o : Option α} {b : β} (h : o.map f = some b) : ∃ a, o = some a ∧ f a = b := by
  cases o with
  | none => cases h
  | some a => exact ⟨a, rfl, Option.some.inj h⟩
/-- what is found -/
def Tr.bad (n : Nat) (t : Tr) (p : List Int) : Option (List Int) := if Tr.first n t < t.size then (t.paths[Tr.first n t]?).map (p ++ ·) else none
theorem fbad_data : ∀ (n : Nat) (t : Tr) (p : List Int), t.Ok → p.length + n = 8 → fbad n t.data p = t.bad n p
  | 0, t, p, _, _ => by
    unfold Tr.bad
    have e : Tr.first 0 t = 0 := by cases t <;> rfl
    rw [e, if_pos (show 0 < t.size from t.size_pos), Tr.path_zero]
    show some p = some (p ++ [])
    rw [List.append_nil]
  | n + 1, .x d, p, ok, _ => by
    show (if shapeB d p.length then fkids (fbad n) (kidsOf d) 1 p else some p) = some (p ++ [])
    rw [bad_shape ok, List.append_nil] <;> rfl
  | n + 1, .is f g h r m, p, ok, hp => by
    show (if shapeB (Tr.is f g h r m).data p.length then fkids (fbad n) (kidsOf (Tr.is f g h r m).data) 1 p else some p) = none
    rw [shape_leaf ok (by omega), kids_is] <;> rfl
  | n + 1, .not c, p, ok, hp => by
    have k := fbad_data n c (p ++ [1]) ok (by rw [List.length_append]; show p.length + 1 + n = 8; omega)
    have hl := Tr.first_le n c
    show (if shapeB (.lst [.str "not", c.data]) p.length then fkids (fbad n) (kidsOf (.lst [.str "not", c.data])) 1 p else some p) = (if Tr.first n c + 1 < c.size + 1 then ((Tr.not c).paths[Tr.first n c + 1]?).map (p ++ ·) else none)
    rw [shape_not (by omega), kids_not, if_pos rfl, Tr.path_not]
    unfold Tr.bad at k
    by_cases h : Tr.first n c < c.size
    · rw [if_pos h] at k
      rw [if_pos (by omega)]
      have hq : (c.paths[Tr.first n c]?).isSome := by rw [List.getElem?_eq_getElem (by rw [Tr.paths_len]; exact h)] <;> rfl
      obtain ⟨q, hq⟩ := Option.isSome_iff_exists.mp hq
      rw [hq] at k ⊢
      rw [fkids_some (b := p ++ [1] ++ q) k, List.append_assoc] <;> rfl
    · rw [if_neg h] at k
      rw [if_neg (by omega), fkids_none k, fkids_nil]
  | n + 1, .bin o a b, p, ok, hp => by
    have ka := fbad_data n a (p ++ [1]) ok.1 (by rw [List.length_append]; show p.length + 1 + n = 8; omega)
    have kb := fbad_data n b (p ++ [2]) ok.2 (by rw [List.length_append]; show p.length + 1 + n = 8; omega)
    have la := Tr.first_le n a
    have lb := Tr.first_le n b
    show (if shapeB (.lst [.str (binW o), a.data, b.data]) p.length then fkids (fbad n) (kidsOf (.lst [.str (binW o), a.data, b.data])) 1 p else some p) =
      (if (if Tr.first n a < a.size then Tr.first n a + 1 else a.size + Tr.first n b + 1) < a.size + b.size + 1 then ((Tr.bin o a b).paths[if Tr.first n a < a.size then Tr.first n a + 1 else a.size + Tr.first n b + 1]?).map (p ++ ·) else none)
    rw [shape_bin (by omega), kids_bin, if_pos rfl]
    unfold Tr.bad at ka kb
    have get : ∀ {t : Tr} {i : Nat}, i < t.size → ∃ q, t.paths[i]? = some q := fun {t i} h => ⟨_, List.getElem?_eq_getElem (by rw [Tr.paths_len]; exact h)⟩
    by_cases h : Tr.first n a < a.size
    · rw [if_pos h] at ka ⊢
      obtain ⟨q, hq⟩ := get h
      rw [hq] at ka
      rw [if_pos (by omega), Tr.path_bin, if_pos h, hq, fkids_some (b := p ++ [1] ++ q) ka, List.append_assoc] <;> rfl
    · rw [if_neg h] at ka ⊢
      rw [fkids_none ka, show (1 : Int) + 1 = 2 from rfl]
      by_cases h2 : Tr.first n b < b.size
      · rw [if_pos h2] at kb
        obtain ⟨q, hq⟩ := get h2
        rw [hq] at kb
        rw [if_pos (by omega), Tr.path_bin, if_neg (by omega), show a.size + Tr.first n b - a.size = Tr.first n b by omega, hq, fkids_some (b := p ++ [2] ++ q) kb, List.append_assoc] <;> rfl
      · rw [if_neg h2] at kb
        rw [if_neg (by omega), fkids_none kb, fkids_nil]

/-! ### claims as trees -/
def Cl.tr : Cl → Tr
  | .is f g h r m => .is f g h r m
  | .not c => .not c.tr
  | .and a b => .bin false a.tr b.tr
  | .or a b => .bin true a.tr b.tr
theorem Cl.tr_ok : ∀ {c : Cl}, c.Ok → c.tr.Ok
  | .is .., h => h
  | .not c, h => Cl.tr_ok (c := c) h
  | .and a b, h => ⟨Cl.tr_ok h.1, Cl.tr_ok h.2⟩
  | .or a b, h => ⟨Cl.tr_ok h.1, Cl.tr_ok h.2⟩
theorem Cl.tr_is : ∀ (c : Cl), IsCl c c.tr.data
  | .is f g h r m => ⟨_, rfl, rfl⟩
  | .not c => ⟨_, rfl, c.tr_is⟩
  | .and a b => ⟨_, _, rfl, a.tr_is, b.tr_is⟩
  | .or a b => ⟨_, _, rfl, a.tr_is, b.tr_is⟩
theorem Cl.tr_first : ∀ (n : Nat) (c : Cl), c.depth ≤ n → Tr.first n c.tr = c.tr.size
  | 0, c, h => absurd h (by have := c.pos; omega)
  | n + 1, .is .., _ => rfl
  | n + 1, .not c, h => congrArg (· + 1) (Cl.tr_first n c (Nat.le_of_succ_le_succ h))
  | n + 1, .and a b, h => by
    have h' : max a.depth b.depth + 1 ≤ n + 1 := h
    have ka := Cl.tr_first n a (by omega)
    have kb := Cl.tr_first n b (by omega)
    show (if Tr.first n a.tr < a.tr.size then Tr.first n a.tr + 1 else a.tr.size + Tr.first n b.tr + 1) = a.tr.size + b.tr.size + 1
    rw [ka, kb, if_neg (Nat.lt_irrefl _)]
  | n + 1, .or a b, h => by
    have h' : max a.depth b.depth + 1 ≤ n + 1 := h
    have ka := Cl.tr_first n a (by omega)
    have kb := Cl.tr_first n b (by omega)
    show (if Tr.first n a.tr < a.tr.size then Tr.first n a.tr + 1 else a.tr.size + Tr.first n b.tr + 1) = a.tr.size + b.tr.size + 1
    rw [ka, kb, if_neg (Nat.lt_irrefl _)]
theorem Cl.tr_deep : ∀ (n : Nat) (c : Cl), n < c.depth → Tr.first n c.tr < c.tr.size
  | 0, c, h => by
    have e : Tr.first 0 c.tr = 0 := by cases c <;> rfl
    rw [e]
    exact c.tr.size_pos
  | n + 1, .is .., h => absurd h (by show ¬ n + 1 < 1; omega)
  | n + 1, .not c, h => Nat.succ_lt_succ (Cl.tr_deep n c (Nat.lt_of_succ_lt_succ h))
  | n + 1, .and a b, h => by
    have h' : n + 1 < max a.depth b.depth + 1 := h
    have lb := Tr.first_le n b.tr
    have la := Tr.first_le n a.tr
    show (if Tr.first n a.tr < a.tr.size then Tr.first n a.tr + 1 else a.tr.size + Tr.first n b.tr + 1) < a.tr.size + b.tr.size + 1
    by_cases ha : n < a.depth
    · have := Cl.tr_deep n a ha
      rw [if_pos this]
      omega
    · have := Cl.tr_deep n b (by omega)
      split <;> omega
  | n + 1, .or a b, h => by
    have h' : n + 1 < max a.depth b.depth + 1 := h
    have lb := Tr.first_le n b.tr
    have la := Tr.first_le n a.tr
    show (if Tr.first n a.tr < a.tr.size then Tr.first n a.tr + 1 else a.tr.size + Tr.first n b.tr + 1) < a.tr.size + b.tr.size + 1
    by_cases ha : n < a.depth
    · have := Cl.tr_deep n a ha
      rw [if_pos this]
      omega
    · have := Cl.tr_deep n b (by omega)
      split <;> omega
/-- the first path of n steps -/
theorem Cl.tr_at : ∀ (n : Nat) (c : Cl) (i : Nat) (q : List Int), c.tr.paths[i]? = some q → (i < Tr.first n c.tr → q.length < n) ∧ (i = Tr.first n c.tr → q.length = n)
  | 0, c, i, q, h => by
    have e : Tr.first 0 c.tr = 0 := by cases c <;> rfl
    rw [e]
    refine ⟨fun z => absurd z (Nat.not_lt_zero _), fun z => ?_⟩
    rw [z, Tr.path_zero] at h
    cases h
    rfl
  | n + 1, c, 0, q, h => by
    rw [Tr.path_zero] at h
    cases h
    refine ⟨fun _ => Nat.succ_pos n, fun z => ?_⟩
    cases c with
    | is => exact absurd z (by show ¬ 0 = 1; omega)
    | not c => exact absurd z (by show ¬ 0 = _ + 1; omega)
    | and a b =>
      have z' : 0 = (if Tr.first n a.tr < a.tr.size then Tr.first n a.tr + 1 else a.tr.size + Tr.first n b.tr + 1) := z
      split at z' <;> omega
    | or a b =>
      have z' : 0 = (if Tr.first n a.tr < a.tr.size then Tr.first n a.tr + 1 else a.tr.size + Tr.first n b.tr + 1) := z
      split at z' <;> omega
  | n + 1, .is .., i + 1, q, h => by
    have : ([[]] : List (List Int))[i + 1]? = some q := h
    simp at this
  | n + 1, .not c, i + 1, q, h => by
    have h' : (Tr.not c.tr).paths[i + 1]? = some q := h
    rw [Tr.path_not] at h'
    obtain ⟨r, hr, rfl⟩ := map_some h'
    have k := Cl.tr_at n c i r hr
    exact ⟨fun z => Nat.succ_lt_succ (k.1 (Nat.lt_of_succ_lt_succ z)), fun z => congrArg (· + 1) (k.2 (Nat.succ.inj z))⟩
  | n + 1, .and a b, i + 1, q, h => by
    have h' : (Tr.bin false a.tr b.tr).paths[i + 1]? = some q := h
    have la := Tr.first_le n a.tr
    rw [Tr.path_bin] at h'
    show (i + 1 < (if Tr.first n a.tr < a.tr.size then Tr.first n a.tr + 1 else a.tr.size + Tr.first n b.tr + 1) → q.length < n + 1) ∧ (i + 1 = (if Tr.first n a.tr < a.tr.size then Tr.first n a.tr + 1 else a.tr.size + Tr.first n b.tr + 1) → q.length = n + 1)
    by_cases hi : i < a.tr.size
    · rw [if_pos hi] at h'
      obtain ⟨r, hr, rfl⟩ := map_some h'
      have k := Cl.tr_at n a i r hr
      refine ⟨fun z => Nat.succ_lt_succ (k.1 ?_), fun z => congrArg (· + 1) (k.2 ?_)⟩ <;> (split at z <;> omega)
    · rw [if_neg hi] at h'
      obtain ⟨r, hr, rfl⟩ := map_some h'
      have k := Cl.tr_at n b (i - a.tr.size) r hr
      refine ⟨fun z => Nat.succ_lt_succ (k.1 ?_), fun z => congrArg (· + 1) (k.2 ?_)⟩ <;> (split at z <;> omega)
  | n + 1, .or a b, i + 1, q, h => by
    have h' : (Tr.bin true a.tr b.tr).paths[i + 1]? = some q := h
    have la := Tr.first_le n a.tr
    rw [Tr.path_bin] at h'
    show (i + 1 < (if Tr.first n a.tr < a.tr.size then Tr.first n a.tr + 1 else a.tr.size + Tr.first n b.tr + 1) → q.length < n + 1) ∧ (i + 1 = (if Tr.first n a.tr < a.tr.size then Tr.first n a.tr + 1 else a.tr.size + Tr.first n b.tr + 1) → q.length = n + 1)
    by_cases hi : i < a.tr.size
    · rw [if_pos hi] at h'
      obtain ⟨r, hr, rfl⟩ := map_some h'
      have k := Cl.tr_at n a i r hr
      refine ⟨fun z => Nat.succ_lt_succ (k.1 ?_), fun z => congrArg (· + 1) (k.2 ?_)⟩ <;> (split at z <;> omega)
    · rw [if_neg hi] at h'
      obtain ⟨r, hr, rfl⟩ := map_some h'
      have k := Cl.tr_at n b (i - a.tr.size) r hr
      refine ⟨fun z => Nat.succ_lt_succ (k.1 ?_), fun z => congrArg (· + 1) (k.2 ?_)⟩ <;> (split at z <;> omega)
theorem Cl.tr_real : ∀ (c : Cl) (i : Nat), i < c.tr.size → c.tr.real i = true
  | .is .., i, h => by
    have h' : i < 1 := h
    have e : i = 0 := by omega
    rw [e]
    rfl
  | .not c, 0, _ => rfl
  | .not c, i + 1, h => Cl.tr_real c i (Nat.lt_of_succ_lt_succ h)
  | .and a b, 0, _ => rfl
  | .and a b, i + 1, h => by
    have h' : i + 1 < a.tr.size + b.tr.size + 1 := h
    show (if i < a.tr.size then a.tr.real i else b.tr.real (i - a.tr.size)) = true
    by_cases hi : i < a.tr.size
    · rw [if_pos hi]; exact Cl.tr_real a i hi
    · rw [if_neg hi]; exact Cl.tr_real b _ (by omega)
  | .or a b, 0, _ => rfl
  | .or a b, i + 1, h => by
    have h' : i + 1 < a.tr.size + b.tr.size + 1 := h
    show (if i < a.tr.size then a.tr.real i else b.tr.real (i - a.tr.size)) = true
    by_cases hi : i < a.tr.size
    · rw [if_pos hi]; exact Cl.tr_real a i hi
    · rw [if_neg hi]; exact Cl.tr_real b _ (by omega)
theorem Cl.tr_size : ∀ c : Cl, c.tr.size ≤ c.leaves * c.depth
  | .is .. => Nat.le_refl 1
  | .not c => by
    have k := Cl.tr_size c
    have := c.leaves_pos
    show c.tr.size + 1 ≤ c.leaves * (c.depth + 1)
    rw [Nat.mul_succ]
    omega
  | .and a b => by
    have ka := Cl.tr_size a
    have kb := Cl.tr_size b
    have := a.leaves_pos
    show a.tr.size + b.tr.size + 1 ≤ (a.leaves + b.leaves) * (max a.depth b.depth + 1)
    have e1 : a.leaves * a.depth ≤ a.leaves * max a.depth b.depth := Nat.mul_le_mul_left _ (Nat.le_max_left _ _)
    have e2 : b.leaves * b.depth ≤ b.leaves * max a.depth b.depth := Nat.mul_le_mul_left _ (Nat.le_max_right _ _)
    rw [Nat.mul_succ, Nat.add_mul]
    omega
  | .or a b => by
    have ka := Cl.tr_size a
    have kb := Cl.tr_size b
    have := a.leaves_pos
    show a.tr.size + b.tr.size + 1 ≤ (a.leaves + b.leaves) * (max a.depth b.depth + 1)
    have e1 : a.leaves * a.depth ≤ a.leaves * max a.depth b.depth := Nat.mul_le_mul_left _ (Nat.le_max_left _ _)
    have e2 : b.leaves * b.depth ≤ b.leaves * max a.depth b.depth := Nat.mul_le_mul_left _ (Nat.le_max_right _ _)
    rw [Nat.mul_succ, Nat.add_mul]
    omega
end Kf

set_option Elab.async false
set_option linter.all false
set_option maxRecDepth 100000
set_option maxHeartbeats 4000000
namespace Kf
open PySem L2 Evl
/-! ### lists turned to tuples, row by row -/
def handB (mode : Int) (k : Nat) : Bool := decide (mode = 0) || (decide (mode = 2) && decide ((k : Int) % 2 = 0))
def seqD0 (b : Bool) (ds : List Py) : Py := if b then .tup ds else .lst ds
mutual
def handD (mode : Int) : Nat → Py → Py
  | k, .lst ds => seqD0 (handB mode k) (handL mode (k + 1) ds)
  | _, .non => .non
  | _, .bl b => .bl b
  | _, .int i => .int i
  | _, .str z => .str z
  | _, .tup ds => .tup ds
  | _, .dic a => .dic a
def handL (mode : Int) : Nat → List Py → List Py
  | _, [] => []
  | k, d :: ds => handD mode k d :: handL mode k ds
end
section
variable {mode : Int}
theorem seqD0_seq (b : Bool) (ds : List Py) : (seqD0 b ds).seq = some ds := by cases b <;> rfl
theorem seqD0_dep (b : Bool) (ds : List Py) : (seqD0 b ds).dep = Py.deps ds + 1 := by cases b <;> rfl
theorem handL_len (k : Nat) : ∀ ds : List Py, (handL mode k ds).length = ds.length
  | [] => rfl
  | d :: ds => congrArg (· + 1) (handL_len k ds)
mutual
theorem hand_dep : ∀ (d : Py) (k : Nat), (handD mode k d).dep = d.dep
  | .lst ds, k => by
    have e : (handD mode k (.lst ds)).dep = Py.deps (handL mode (k + 1) ds) + 1 := seqD0_dep _ _
    rw [e, handL_dep ds (k + 1)] <;> rfl
  | .non, _ => rfl
  | .bl _, _ => rfl
  | .int _, _ => rfl
  | .str _, _ => rfl
  | .tup _, _ => rfl
  | .dic _, _ => rfl
theorem handL_dep : ∀ (ds : List Py) (k : Nat), Py.deps (handL mode k ds) = Py.deps ds
  | [], _ => rfl
  | d :: ds, k => by
    show max (handD mode k d).dep (Py.deps (handL mode k ds)) = max d.dep (Py.deps ds)
    rw [hand_dep d k, handL_dep ds k]
end
theorem hand_bound (k : Nat) (d : Py) (lo hi : Int) : boundedB (handD mode k d) lo hi = boundedB d lo hi := by
  cases d with
  | lst ds => unfold handD; cases handB mode k <;> rfl
  | _ => rfl
theorem handL_factors (k : Nat) : ∀ ds : List Py, factorsB (handL mode k ds) = factorsB ds
  | [] => rfl
  | d :: ds => by
    show (boundedB (handD mode k d) (-99) 99 && factorsB (handL mode k ds)) = _
    rw [hand_bound, handL_factors k ds] <;> rfl
theorem hand_mod (k : Nat) (r m : Py) : modB (handD mode k r) (handD mode k m) = modB r m := by
  cases m with
  | int i =>
    show (boundedB (.int i) 1 12 && boundedB (handD mode k r) 0 (i - 1)) = _
    rw [hand_bound] <;> rfl
  | lst ds => unfold handD; cases handB mode k <;> rfl
  | _ => rfl
theorem hand_seq (k : Nat) (d : Py) : (handD mode k d).seq = d.seq ∨ ∃ ds, d = .lst ds ∧ (handD mode k d).seq = some (handL mode (k + 1) ds) := by
  cases d with
  | lst ds => exact .inr ⟨ds, rfl, seqD0_seq _ _⟩
  | _ => exact .inl rfl
theorem hand_rightIs (k : Nat) (e r m : Py) : rightIs (handD mode k e) (handD mode k r) (handD mode k m) = rightIs e r m := by
  unfold rightIs
  rcases hand_seq (mode := mode) k e with h | ⟨ds, rfl, h⟩
  · rw [h, hand_mod]
  · rw [h, hand_mod]
    show (if (handL mode (k + 1) ds).length = 3 then factorsB (handL mode (k + 1) ds) && modB r m else false) = (if ds.length = 3 then factorsB ds && modB r m else false)
    rw [handL_len, handL_factors]
def wordOf : Py → Option Str
  | .str w => some w
  | _ => none
theorem hand_word (k : Nat) (d : Py) : wordOf (handD mode k d) = wordOf d := by
  cases d with
  | lst ds => unfold handD; cases handB mode k <;> rfl
  | _ => rfl
def rightW (w : Option Str) (r : List Py) : Bool := match w with
  | some w => if arity w = some (r.length + 1) then (if w = "is" then (match r with
    | [a, b, c] => rightIs a b c
    | _ => false) else true) else false
  | none => false
theorem rightB_w : ∀ ds : List Py, rightB ds = match ds with
    | d :: r => rightW (wordOf d) r
    | [] => false
  | [] => rfl
  | .non :: _ => rfl
  | .bl _ :: _ => rfl
  | .int _ :: _ => rfl
  | .str _ :: _ => rfl
  | .lst _ :: _ => rfl
  | .tup _ :: _ => rfl
  | .dic _ :: _ => rfl
theorem handL_right (k : Nat) (ds : List Py) : rightB (handL mode k ds) = rightB ds := by
  rw [rightB_w, rightB_w]
  cases ds with
  | nil => rfl
  | cons d r =>
    show rightW (wordOf (handD mode k d)) (handL mode k r) = rightW (wordOf d) r
    rw [hand_word]
    unfold rightW
    cases wordOf d with
    | none => rfl
    | some w =>
      show (if arity w = some ((handL mode k r).length + 1) then _ else false) = _
      rw [handL_len]
      match r with
      | [] => rfl
      | [_] => rfl
      | [_, _] => rfl
      | [a, b, c] =>
        show (if arity w = some (3 + 1) then (if w = "is" then rightIs (handD mode k a) (handD mode k b) (handD mode k c) else true) else false) = (if arity w = some (3 + 1) then (if w = "is" then rightIs a b c else true) else false)
        rw [hand_rightIs]
      | _ :: _ :: _ :: _ :: _ => rfl
theorem hand_shape (k : Nat) (d : Py) (n : Nat) : shapeB (handD mode k d) n = shapeB d n := by
  unfold shapeB
  rcases hand_seq (mode := mode) k d with h | ⟨ds, rfl, h⟩
  · rw [h]
  · rw [h]
    show (decide (n < 8) && rightB (handL mode (k + 1) ds)) = (decide (n < 8) && rightB ds)
    rw [handL_right]
theorem hand_kids (k : Nat) (d : Py) : kidsOf (handD mode k d) = kidsOf d ∨ kidsOf (handD mode k d) = handL mode (k + 1) (kidsOf d) := by
  unfold kidsOf
  rcases hand_seq (mode := mode) k d with h | ⟨ds, rfl, h⟩
  · exact .inl (by rw [h])
  · rw [h]
    refine .inr ?_
    match ds with
    | [] => rfl
    | .non :: _ => rfl
    | .bl _ :: _ => rfl
    | .int _ :: _ => rfl
    | .tup _ :: _ => rfl
    | .dic _ :: _ => rfl
    | .lst es :: r =>
      show (match some (seqD0 (handB mode (k + 1)) (handL mode (k + 1 + 1) es) :: handL mode (k + 1) r) with
        | some (.str w :: ks) => if w = "is" then [] else ks
        | _ => []) = []
      cases handB mode (k + 1) <;> rfl
    | .str w :: r =>
      show (if w = "is" then [] else handL mode (k + 1) r) = handL mode (k + 1) (if w = "is" then [] else r)
      split <;> rfl
theorem fkids_hand {f g : Py → List Int → Option (List Int)} (k : Nat) (h : ∀ d p, f (handD mode k d) p = g d p) : ∀ (ds : List Py) (i : Int) (p : List Int), fkids f (handL mode k ds) i p = fkids g ds i p
  | [], _, _ => rfl
  | d :: ds, i, p => by
    show (match f (handD mode k d) (p ++ [i]) with
      | some b => some b
      | none => fkids f (handL mode k ds) (i + 1) p) = (match g d (p ++ [i]) with
      | some b => some b
      | none => fkids g ds (i + 1) p)
    rw [h, fkids_hand k h ds]
theorem fbad_hand : ∀ (n k : Nat) (d : Py) (p : List Int), fbad n (handD mode k d) p = fbad n d p
  | 0, _, _, _ => rfl
  | n + 1, k, d, p => by
    show (if shapeB (handD mode k d) p.length then fkids (fbad n) (kidsOf (handD mode k d)) 1 p else some p) = (if shapeB d p.length then fkids (fbad n) (kidsOf d) 1 p else some p)
    rw [hand_shape]
    rcases hand_kids (mode := mode) k d with h | h
    · rw [h]
    · rw [h, fkids_hand (k + 1) (fun d p => fbad_hand n (k + 1) d p)]
theorem isCl_hand : ∀ (c : Cl) (k : Nat) (d : Py), IsCl c d → IsCl c (handD mode k d)
  | .is f g h r m, k, d, hc => by
    obtain ⟨e, h1, h2⟩ := hc
    rcases hand_seq (mode := mode) k d with q | ⟨ds, rfl, q⟩
    · exact ⟨e, q.trans h1, h2⟩
    · cases (Option.some.inj h1)
      refine ⟨handD mode (k + 1) e, q, ?_⟩
      rcases hand_seq (mode := mode) (k + 1) e with q2 | ⟨es, rfl, q2⟩
      · exact q2.trans h2
      · cases (Option.some.inj h2)
        exact q2
  | .not c, k, d, hc => by
    obtain ⟨e, h1, h2⟩ := hc
    rcases hand_seq (mode := mode) k d with q | ⟨ds, rfl, q⟩
    · exact ⟨e, q.trans h1, h2⟩
    · cases (Option.some.inj h1)
      exact ⟨handD mode (k + 1) e, q, isCl_hand c (k + 1) e h2⟩
  | .and a b, k, d, hc => by
    obtain ⟨e, f, h1, h2, h3⟩ := hc
    rcases hand_seq (mode := mode) k d with q | ⟨ds, rfl, q⟩
    · exact ⟨e, f, q.trans h1, h2, h3⟩
    · cases (Option.some.inj h1)
      exact ⟨handD mode (k + 1) e, handD mode (k + 1) f, q, isCl_hand a (k + 1) e h2, isCl_hand b (k + 1) f h3⟩
  | .or a b, k, d, hc => by
    obtain ⟨e, f, h1, h2, h3⟩ := hc
    rcases hand_seq (mode := mode) k d with q | ⟨ds, rfl, q⟩
    · exact ⟨e, f, q.trans h1, h2, h3⟩
    · cases (Option.some.inj h1)
      exact ⟨handD mode (k + 1) e, handD mode (k + 1) f, q, isCl_hand a (k + 1) e h2, isCl_hand b (k + 1) f h3⟩
end
/-! ### how wide data are -/
mutual
def Py.thin : Py → Bool
  | .lst ds => decide (ds.length ≤ 1000) && Py.thins ds
  | _ => true
def Py.thins : List Py → Bool
  | [] => true
  | d :: ds => d.thin && Py.thins ds
end
theorem thin_lst {ds : List Py} (h : (Py.lst ds).thin = true) : ds.length ≤ 1000 ∧ Py.thins ds = true := by
  have h' : (decide (ds.length ≤ 1000) && Py.thins ds) = true := h
  have k := Bool.and_eq_true_iff.mp h'
  exact ⟨of_decide_eq_true k.1, k.2⟩
theorem thins_get : ∀ {ds : List Py} {i : Nat} {d : Py}, Py.thins ds = true → ds[i]? = some d → d.thin = true
  | [], i, d, _, h => by simp at h
  | e :: ds, 0, d, ht, h => by
    have k := Bool.and_eq_true_iff.mp (show (e.thin && Py.thins ds) = true from ht)
    cases (Option.some.inj h)
    exact k.1
  | e :: ds, i + 1, d, ht, h => by
    have k := Bool.and_eq_true_iff.mp (show (e.thin && Py.thins ds) = true from ht)
    exact thins_get (i := i) k.2 h
theorem deps_get : ∀ {ds : List Py} {i : Nat} {d : Py}, ds[i]? = some d → d.dep ≤ Py.deps ds
  | [], i, d, h => by simp at h
  | e :: ds, 0, d, h => by
    cases (Option.some.inj h)
    exact Nat.le_max_left _ _
  | e :: ds, i + 1, d, h => Nat.le_trans (deps_get (i := i) h) (Nat.le_max_right _ _)
end Kf

set_option Elab.async false
set_option linter.all false
set_option maxRecDepth 100000
set_option maxHeartbeats 4000000
namespace Kf
open PySem L2 Evl
abbrev sInitT : Stmt := inClass (top 7) 0
theorem scInitT : FnScope ["self", "modulus"] ["self", "modulus"] (defScope sInitT) := ⟨rfl, rfl, rfl, by decide +kernel, rfl, by decide +kernel, by decide +kernel⟩
abbrev sInitB : Stmt := inClass (top 6) 0
theorem scInitB : FnScope ["self", "path"] ["self", "path"] (defScope sInitB) := ⟨rfl, rfl, rfl, by decide +kernel, rfl, by decide +kernel, by decide +kernel⟩
abbrev sClaimModulus : Stmt := top 25
theorem scClaimModulus : FnScope ["claim", "modulus"] ["claim"] (defScope sClaimModulus) := ⟨rfl, rfl, rfl, by decide +kernel, rfl, by decide +kernel, by decide +kernel⟩
/-- how a check ends: nothing is bad, or BadClaim with this path -/
def Out (K : PySem.W.Frag) (C : Addr) (H : Hp) (Q : VK) (E : XK) : Option (List Int) → Prop
  | none => RetV .non H Q
  | some b => ∀ H' dd q, Ex H H' → H' dd = some (.xd [("path", .ref q)]) → SqT K H' q (b.map V.int) → E (.ref C) (some dd) H'
theorem Out.mo {K : PySem.W.Frag} {C : Addr} {H H' : Hp} {Q : VK} {E : XK} {o : Option (List Int)} (h : Out K C H Q E o) (e : Ex H H') : Out K C H' Q E o := by
  cases o with
  | none => exact fun H2 e2 => h _ (e.trans e2)
  | some b => exact fun H2 dd q e2 => h _ _ _ (e.trans e2)
def spPart (K : PySem.W.Frag) (C : Addr) (n : Nat) : Sp := fun vs H Q E => ∃ x d p ps, vs = [x, .ref p] ∧ Rp K H x d ∧ SqT K H p (ps.map V.int) ∧ ps.length + n = 8 ∧ Out K C H Q E (fbad n d ps)
def spCheck (K : PySem.W.Frag) (C : Addr) : Sp := fun vs H Q E => ∃ x d, vs = [x] ∧ Rp K H x d ∧ Out K C H Q E (fbad 8 d [])
/-- claims: bad, or this claim -/
def Bad8 (d : Py) (b : List Int) : Prop := fbad 8 d [] = some b
def Good8 (d : Py) (c : Cl) : Prop := fbad 8 d [] = none ∧ IsCl c d ∧ c.Ok ∧ c.depth ≤ 8
def spManyX (K : PySem.W.Frag) (CB CT : Addr) : Sp := fun vs H Q E => ∃ x d, vs = [x] ∧ Rp K H x d ∧ ((∃ b, Bad8 d b ∧ Out K CB H Q E (some b)) ∨
  ∃ c, Good8 d c ∧ (∀ v H', Ex H H' → Q v H') ∧ ∀ H' dd fs, Ex H H' → H' dd = some (.xd fs) → E (.ref CT) (some dd) H')
def spHoldsX (K : PySem.W.Frag) (CB : Addr) : Sp := fun vs H Q E => ∃ x d p y z u, vs = [x, .ref p] ∧ Rp K H x d ∧ Sq K H p [.int y, .int z, .int u] ∧ ((∃ b, Bad8 d b ∧ Out K CB H Q E (some b)) ∨ ∃ c, Good8 d c ∧ (∀ v H', Ex H H' → Q v H'))
theorem rightW_len {w : Str} {ks : List Py} (h : rightW (some w) ks = true) : ks.length ≤ 3 := by
  by_cases ha : arity w = some (ks.length + 1)
  · unfold arity at ha
    split at ha
    · have := Option.some.inj ha; omega
    · split at ha
      · have := Option.some.inj ha; omega
      · split at ha
        · have := Option.some.inj ha; omega
        · split at ha
          · have := Option.some.inj ha; omega
          · cases ha
  · unfold rightW at h
    exact absurd (h.symm.trans (if_neg ha)) (by decide)
theorem shape_word {d : Py} {n : Nat} (h : shapeB d n = true) : n < 8 ∧ ∃ w ks, d.seq = some (.str w :: ks) ∧ ks.length ≤ 3 := by
  unfold shapeB at h
  cases e : d.seq with
  | none => rw [e] at h; cases h
  | some ds =>
    rw [e] at h
    have k := Bool.and_eq_true_iff.mp (show (decide (n < 8) && rightB ds) = true from h)
    refine ⟨of_decide_eq_true k.1, ?_⟩
    have k2 := k.2
    rw [rightB_w] at k2
    match ds, k2 with
    | x :: ks, k2 =>
      cases x with
      | str w => exact ⟨w, ks, rfl, rightW_len (w := w) k2⟩
      | _ => cases k2
section
variable {P : Program} {w : World} {K : PySem.W.Frag} {mg : Str → Option Value} {base : Heap} {C fI : Addr} {σ : L2.St} {H H' : Hp} {ta : TA} {D : Ends} {E : XK} {tz : TS}
theorem s_raise1 {name fld : Str} {v : V} (T : Xc K mg name fld C fI) (h : EvA ta σ H [v]) (k : ∀ H' dd, Ex H H' → H' dd = some (.xd [(fld, v)]) → E (.ref C) (some dd) H') : tMkO C (spInit K C fld) [] ta σ H (fun cls d H' => E cls d H') := by
  refine h H (Ex.refl H) _ fun H4 e4 => ⟨by show 1 ≤ 1000; decide, fun a ha => ⟨a, _, rfl, upd_same, T.T, T.noF, fun d hd' hne => ?_⟩⟩
  have hd4 : H4 d = none := by rw [upd_ne hne] at hd'; exact hd'
  refine ⟨rfl, d, [(fld, v)], upd_same, by rw [upd_ne hne, upd_same], hd4, k _ d (e4.trans fun b o hb' => ?_) upd_same⟩
  have n1 : b ≠ d := ne_of_none hb' hd4
  have n2 : b ≠ a := ne_of_none hb' ha
  rw [upd_ne n1, del_ne n2, upd_ne n2, upd_ne n1, upd_ne n2]
  exact hb'
/-- a call for what it does -/
theorem s_dropX {sp : Sp} {R : List V → Hp → Prop} (h : EvAP ta σ H R) (k : ∀ vs H1, Ex H H1 → R vs H1 → sp vs H1 (fun _ H2 => D.nx σ H2) E) : tDrop (tCall sp [] E ta) D σ H := h H (Ex.refl H) _ fun vs H1 e r => by
  have q := k vs H1 e r
  show sp (vs ++ []) H1 _ E
  rw [List.append_nil]
  exact q
theorem q_dropX {sp : Sp} {R : List V → Hp → Prop} (h : EvAP ta σ H R) (k : ∀ vs H1, Ex H H1 → R vs H1 → sp vs H1 (fun _ H2 => tz D σ H2) E) : tSeq (tDrop (tCall sp [] E ta)) tz D σ H := s_dropX (D := { D with nx := tz D }) h k
theorem fn_initT {fd : FuncData} (F : Fun K "__init__" "TooManyRests.__init__" sInitT fI fd) : FnOk P w K mg base CX0 1 fI fd ["self", "modulus"] (spInit K C "modulus") := by
  refine F.ok scInitT (fun vs H Q E h => ?_) (fun cdv A outer s H vs Q E hr h => ?_)
  · obtain ⟨a, v, rfl, _⟩ := h
    rfl
  obtain ⟨a, v, rfl, ha, T, hno, q⟩ := h
  refine ⟨_, pss_one (ps_ost (pv 0) (pv 1)), ?_⟩
  exact ⟨_, rfl, _, rfl, a, C, rfl, T, hno, .inl ⟨ha, fun d hd hne => q d hd hne⟩⟩
theorem fn_initB {fd : FuncData} (F : Fun K "__init__" "BadClaim.__init__" sInitB fI fd) : FnOk P w K mg base CX0 1 fI fd ["self", "path"] (spInit K C "path") := by
  refine F.ok scInitB (fun vs H Q E h => ?_) (fun cdv A outer s H vs Q E hr h => ?_)
  · obtain ⟨a, v, rfl, _⟩ := h
    rfl
  obtain ⟨a, v, rfl, ha, T, hno, q⟩ := h
  refine ⟨_, pss_one (ps_ost (pv 0) (pv 1)), ?_⟩
  exact ⟨_, rfl, _, rfl, a, C, rfl, T, hno, .inl ⟨ha, fun d hd hne => q d hd hne⟩⟩
theorem kids_word {d : Py} {w : Str} {ks : List Py} (h : d.seq = some (.str w :: ks)) : kidsOf d = if w = "is" then [] else ks := by
  unfold kidsOf
  rw [h]
theorem fkids_drop {f : Py → List Int → Option (List Int)} {ks : List Py} {i : Nat} {p : List Int} {k : Py} (h : ks[i]? = some k) : fkids f (ks.drop i) (1 + (i : Int)) p = match f k (p ++ [1 + (i : Int)]) with
    | some b => some b
    | none => fkids f (ks.drop (i + 1)) (1 + ((i + 1 : Nat) : Int)) p := by
  obtain ⟨hi, e⟩ := List.getElem?_eq_some_iff.mp h
  rw [List.drop_eq_getElem_cons hi, e, show (1 : Int) + ((i + 1 : Nat) : Int) = 1 + (i : Int) + 1 by omega] <;> rfl
theorem df_noneX {CX : CXT} {name : Str} {st : Stmt} {ps : List Str} {sp : Sp} {k : Nat} (S : At K mg name st ps) (no : ∀ vs H Q E, ¬ sp vs H Q E) : Df P w K mg base CX name k ps sp := by
  obtain ⟨f, fd, F, m, b⟩ := S
  exact ⟨f, fd, m, F.kp, b, fun vs H Q E h => absurd h (no vs H Q E), fun A outer s H args us vs Q E _ _ _ _ h => absurd h (no vs H Q E)⟩
theorem df_part (B : Bi mg) (DRightShape : Df P w K mg base CX0 "right_shape" 4 ["claim", "path"] (spRightShape K)) (TBadClaim : Xc K mg "BadClaim" "path" C fI) {fdI : FuncData} (GBadClaim : FnOk P w K mg base CX0 1 fI fdI ["self", "path"] (spInit K C "path")) (bBadClaim : Binds K fdI ["self", "path"] [])
    (S : At K mg "check_part" sCheckPart ["claim", "path"]) : ∀ n : Nat, Df P w K mg base (L2N.CX P w) "check_part" (n + 5) ["claim", "path"] (spPart K C n) := by
  have main : ∀ n : Nat, (∀ m, n = m + 1 → Df P w K mg base (L2N.CX P w) "check_part" (m + 5) ["claim", "path"] (spPart K C m)) → Df P w K mg base (L2N.CX P w) "check_part" (n + 5) ["claim", "path"] (spPart K C n) := fun n ih => by
    have DCheckPart : ∃ m, (n = m + 1 ∨ n = 0) ∧ Df P w K mg base (L2N.CX P w) "check_part" (n + 4) ["claim", "path"] (fun vs H Q E => n = m + 1 ∧ spPart K C m vs H Q E) := by
      cases n with
      | zero => exact ⟨0, .inr rfl, df_noneX S fun vs H Q E h => nomatch h.1⟩
      | succ m => exact ⟨m, .inl rfl, (ih m rfl).imp fun vs H Q E h => h.2⟩
    obtain ⟨m, hm, DCheckPart⟩ := DCheckPart
    obtain ⟨f, fd, F, mm, b⟩ := S
    refine ⟨f, fd, mm, F.kp, b, fn_raiseN F scCheckPart (fun vs H Q E h => ?_) (fun cdv A outer s H vs Q E hr h => ?_)⟩
    · obtain ⟨x, d, p, ps, rfl, _⟩ := h
      rfl
    obtain ⟨x, d, p, ps, rfl, hd, hp, hn, out⟩ := h
    refine ⟨_, (pss_cons (ps_if (pt_not (pt_val (pe_df DRightShape hr pass0 (pa_cons (pv 0) (pa_cons (pv 1) pa_nil))))) (pss_one (L2N.ps_raise rfl (L2N.takes_of rfl rfl rfl rfl) (mk_exc TBadClaim.T TBadClaim.iC TBadClaim.tI GBadClaim (hr.mono (by omega)) bBadClaim pass0 rfl TBadClaim.gC (pa_cons (pv 1) pa_nil)))) pss_nil)
  (pss_one (ps_if (pt_cmpR op_ne (pe_ix ix_lt (pv 0) pe_int (fun _ _ => rfl)) pe_str (nomark _)) (pss_one (ps_for PassesOwn.leaving rfl (pi_range2 rfl B.range (pa_cons pe_int (pa_cons (pe_callB call_len_seq rfl B.len PySem.boot_len (pa_cons (pv 0) pa_nil)) pa_nil))) (pg_name (i := 2) scCheckPart.nd rfl (Or.inl rfl)) (pss_one (ps_expr (pe_df DCheckPart hr (L2N.passes_call (L2N.takes_of rfl rfl rfl rfl) (fun _ _ _ _ h => h)) (pa_cons (pe_ix ix_lt (pv 0) (pv 2) (fun _ _ => rfl)) (pa_cons (pe_op op_catA (pv 1) (pe_tup (pa_cons (pv 2) pa_nil))) pa_nil))))))) pss_nil))), ?_⟩
    refine q_when (b := !shapeB d ps.length) (et_is (et_not (et_B (ev_callV (ea_cons (ev_var rfl) (ea_cons (ev_var rfl) ea_nil)) (sv_rightShape hd hp)))) (by rw [List.length_map])) (fun hb H1 e1 => ?_) fun hb H1 e1 => ?_
    · have hs : shapeB d ps.length = false := by simpa using hb
      refine s_raise1 TBadClaim (ea_cons (ev_var rfl) ea_nil) fun H2 dd e2 hdd => ?_
      have ob : fbad n d ps = some ps := by
        cases n with
        | zero => rfl
        | succ n => exact if_neg (by rw [hs]; decide)
      rw [ob] at out
      exact out _ _ _ (e1.trans e2) hdd (ex_t (e1.trans e2) hp)
    · have hs : shapeB d ps.length = true := by simpa using hb
      obtain ⟨n8, wd, ks, hseq, hk3⟩ := shape_word hs
      have hnm : n = m + 1 := by rcases hm with hm | hm <;> omega
      have ob : fbad n d ps = fkids (fbad m) (kidsOf d) 1 ps := by
        rw [hnm]
        exact if_pos hs
      rw [ob, kids_word hseq] at out
      obtain ⟨a, xs, rfl, hq, hall⟩ := (hd.mo e1).sq hseq
      cases hall with
      | @cons v0 vr _ _ hv0 hvr =>
      cases hv0
      have hlr : vr.length = ks.length := hvr.length
      refine s_when (b := !decide (wd = "is")) (et_test (ev_strNe (ev_op (ev_var rfl) ev_c (rv_ixQ hq (atI_zero _ _))) ev_c)) (fun hw H2 e2 => ?_) fun hw H2 e2 => ?_
      · have hw' : ¬ wd = "is" := by simpa using hw
        rw [if_neg hw'] at out
        have hq2 := hq.ex e2
        refine s_forR2 (lo := 1) (n := ((V.str wd :: vr).length : Int)) (ea_cons ev_c (ea_cons (ev_lenQ (ev_var rfl) hq2) ea_nil)) (by rw [List.length_cons]; omega) (fun i σ' H' => ∃ o, σ' = [some (.ref a), some (.ref p), o] ∧ fkids (fbad m) (ks.drop i) (1 + (i : Int)) ps = fkids (fbad m) ks 1 ps ∧ Ex H2 H')
          (fun H3 e3 => ⟨none, rfl, rfl, e3⟩) ?_ (fun σ' H' h => by
            obtain ⟨o, rfl, hf, e3⟩ := h
            have e : (((V.str wd :: vr).length : Int) - 1).toNat = ks.length := by rw [List.length_cons, hlr]; omega
            rw [e, List.drop_length, fkids_nil] at hf
            rw [← hf] at out
            exact out _ ((e1.trans e2).trans e3))
        rintro i σ' H' hi ⟨o, rfl, hf, e3⟩
        rw [List.length_cons] at hi
        have hix : i < vr.length := by omega
        have hxi : vr[i]? = some vr[i] := List.getElem?_eq_getElem hix
        obtain ⟨e, he1, he2⟩ := hvr.getV hxi
        have hat : atI (V.str wd :: vr) (1 + (i : Int)) = some vr[i] := by
          have e1 : (1 : Int) + (i : Int) = ((i + 1 : Nat) : Int) := by omega
          rw [e1]
          exact atI_nat (by rw [List.getElem?_cons_succ]; exact hxi)
        have hp3 := ex_t ((e1.trans e2).trans e3) hp
        rw [fkids_drop he1] at hf
        refine s_dropX (R := fun vs H4 => ∃ p', vs = [vr[i], .ref p'] ∧ SqT K H4 p' ((ps ++ [1 + (i : Int)]).map V.int)) ?_ ?_
        · refine eap_cons (P := fun v _ => v = vr[i]) (evp_ev (ev_op (ev_var rfl) (ev_var rfl) (rv_ixQ (hq2.ex e3) hat)) fun _ _ => rfl) fun v H4 e4 ev => ?_
          subst ev
          refine eap_cons (evp_catA (ev_var rfl) (ex_t e4 hp3) (eu_tup (ea_cons (ev_var rfl) ea_nil) (by show 1 ≤ 100000; decide)) (fun z => nomatch z) (by show (ps.map V.int).length + 1 ≤ 1000; rw [List.length_map]; omega)) fun v H5 e5 hv => ?_
          obtain ⟨p', rfl, hp'⟩ := hv
          refine fun H6 e6 Q' q' => q' [] H6 (Ex.refl H6) ⟨p', rfl, ?_⟩
          rw [List.map_append]
          exact ex_t e6 hp'
        · rintro vs H4 e4 ⟨p', rfl, hp'⟩
          refine ⟨hnm, _, e, p', ps ++ [1 + (i : Int)], rfl, (he2.mo ((e2.trans e3).trans e4)), hp', by rw [List.length_append]; show ps.length + 1 + m = 8; omega, ?_⟩
          cases hfe : fbad m e (ps ++ [1 + (i : Int)]) with
          | none =>
            rw [hfe] at hf
            exact fun H5 e5 => ⟨_, rfl, hf, (e3.trans e4).trans e5⟩
          | some bb =>
            rw [hfe] at hf
            rw [← hf] at out
            exact fun H5 dd q e5 => out _ _ _ ((((e1.trans e2).trans e3).trans e4).trans e5)
      · have hw' : wd = "is" := by simpa using hw
        rw [if_pos hw'] at out
        exact out _ (e1.trans e2)
  intro n
  induction n with
  | zero => exact main 0 fun m h => nomatch h
  | succ n ih => exact main (n + 1) fun m h => by cases h; exact ih
theorem df_check (DCheckPart : Df P w K mg base (L2N.CX P w) "check_part" 13 ["claim", "path"] (spPart K C 8)) (S : At K mg "check_claim" sCheckClaim ["claim"]) : Df P w K mg base (L2N.CX P w) "check_claim" 14 ["claim"] (spCheck K C) := by
  obtain ⟨f, fd, F, m, b⟩ := S
  refine ⟨f, fd, m, F.kp, b, fn_raiseN F scCheckClaim (fun vs H Q E h => ?_) (fun cdv A outer s H vs Q E hr h => ?_)⟩
  · obtain ⟨x, d, rfl, _⟩ := h
    rfl
  obtain ⟨x, d, rfl, hd, out⟩ := h
  refine ⟨_, (pss_one (ps_expr (pe_df DCheckPart hr (L2N.passes_call (L2N.takes_of rfl rfl rfl rfl) (fun _ _ _ _ h => h)) (pa_cons (pv 0) (pa_cons (pe_tup pa_nil) pa_nil))))), ?_⟩
  refine s_dropX (R := fun vs H1 => ∃ p, vs = [x, .ref p] ∧ SqT K H1 p []) ?_ ?_
  · refine eap_cons (P := fun v _ => v = x) (evp_var rfl fun _ _ => rfl) fun v H1 e1 hv => ?_
    subst hv
    refine eap_cons (P := IsU []) (evp_U (eu_tup ea_nil (Nat.zero_le _)) fun p H2 _ h2 => ⟨p, rfl, h2⟩) fun v H2 e2 hv => ?_
    obtain ⟨p, rfl, hp⟩ := hv
    exact fun H3 e3 Q' q' => q' [] H3 (Ex.refl H3) ⟨p, rfl, st_of (e3 _ _ hp)⟩
  · rintro vs H1 e1 ⟨p, rfl, hp⟩
    refine ⟨x, d, p, [], rfl, hd.mo e1, hp, rfl, ?_⟩
    have o2 := out.mo e1
    cases hf : fbad 8 d [] with
    | none => rw [hf] at o2; exact o2
    | some b => rw [hf] at o2; exact o2
/-- a check of claims of which it is known what they are -/
theorem check_bad {Q : VK} {x : V} {d : Py} {b : List Int} (hd : Rp K H x d) (hb : Bad8 d b) (out : Out K C H Q E (some b)) {Q' : VK} : spCheck K C [x] H Q' E := ⟨x, d, rfl, hd, by
  rw [show fbad 8 d [] = some b from hb]
  exact out⟩
theorem check_good {x : V} {d : Py} {c : Cl} (hd : Rp K H x d) (hc : Good8 d c) {Q' : VK} (k : RetV .non H Q') : spCheck K C [x] H Q' E := ⟨x, d, rfl, hd, by
  rw [hc.1]
  exact k⟩
theorem df_manyX {t8 t12 : Tok} {wd : Addr} {es : Array DictEntry} {n : Nat} {CT fT : Addr} (M : Mc K w mg t8 t12 wd es n) (DCheckClaim : Df P w K mg base (L2N.CX P w) "check_claim" 14 ["claim"] (spCheck K C)) (DCommonModulus : Df P w K mg base CX0 "common_modulus" 8 ["claim"] (spCommon K 8))
    (TTooManyRests : Xc K mg "TooManyRests" "modulus" CT fT) {fdT : FuncData} (GTooManyRests : FnOk P w K mg base CX0 1 fT fdT ["self", "modulus"] (spInit K CT "modulus")) (bTooManyRests : Binds K fdT ["self", "modulus"] []) (S : At K mg "claim_modulus" sClaimModulus ["claim"]) :
    Df P w K mg base (L2N.CX P w) "claim_modulus" 15 ["claim"] (spManyX K C CT) := by
  obtain ⟨f, fd, F, m, b⟩ := S
  refine ⟨f, fd, m, F.kp, b, fn_raiseN F scClaimModulus (fun vs H Q E h => ?_) (fun cdv A outer s H vs Q E hr h => ?_)⟩
  · obtain ⟨x, d, rfl, _⟩ := h
    rfl
  obtain ⟨x, d, rfl, hd, h⟩ := h
  refine ⟨_, (pss_cons (ps_expr (pe_df DCheckClaim hr (L2N.passes_call (L2N.takes_of rfl rfl rfl rfl) (fun _ _ _ _ h => h)) (pa_cons (pv 0) pa_nil)))
  (pss_cons (ps_set (i := 1) scClaimModulus.nd rfl (Or.inl rfl) (pe_df DCommonModulus hr pass0 (pa_cons (pv 0) pa_nil)))
  (pss_cons (ps_if (pt_cmpR op_gt (pv 1) (pe_glob (v := .int 12) rfl M.most ⟨_, rfl⟩) (nomark _)) (pss_one (L2N.ps_raise rfl (L2N.takes_of rfl rfl rfl rfl) (mk_exc TTooManyRests.T TTooManyRests.iC TTooManyRests.tI GTooManyRests (hr.mono (by omega)) bTooManyRests pass0 rfl TTooManyRests.gC (pa_cons (pv 1) pa_nil)))) pss_nil)
  (pss_one (ps_ret (pv 1)))))), ?_⟩
  refine q_dropX (R := fun vs _ => vs = [x]) (eap_cons (P := fun v _ => v = x) (evp_var rfl fun _ _ => rfl) fun v H1 e1 hv => by subst hv; exact fun H2 e2 Q' q' => q' [] H2 (Ex.refl H2) rfl) fun vs H1 e1 hv => ?_
  subst hv
  rcases h with ⟨b, hb, out⟩ | ⟨c, hc, q1, q2⟩
  · exact check_bad (hd.mo e1) hb (out.mo e1)
  · refine check_good (hd.mo e1) hc fun H2 e2 => ?_
    refine q_asg (ev_callV (ea_cons (ev_var rfl) ea_nil) (sv_common ((hd.mo e1).mo e2) hc.2.1 hc.2.2.1 hc.2.2.2)) fun H3 e3 => ?_
    refine q_when (et_test (ev_op (ev_var rfl) ev_c rv_I0)) (fun hb H4 e4 => ?_) fun hb H4 e4 => ?_
    · exact s_raise1 TTooManyRests (ea_cons (ev_var rfl) ea_nil) fun H5 dd e5 hdd => q2 _ dd _ ((((e1.trans e2).trans e3).trans e4).trans e5) hdd
    · exact s_ret (ev_var rfl) fun H5 e5 => q1 _ _ ((((e1.trans e2).trans e3).trans e4).trans e5)
theorem df_holdsX (DCheckClaim : Df P w K mg base (L2N.CX P w) "check_claim" 14 ["claim"] (spCheck K C)) (DHoldsAt : Df P w K mg base CX0 "holds_at" 9 ["claim", "row"] (spHoldsAt K 8)) (S : At K mg "holds" sHolds ["claim", "row"]) : Df P w K mg base (L2N.CX P w) "holds" 15 ["claim", "row"] (spHoldsX K C) := by
  obtain ⟨f, fd, F, m, b⟩ := S
  refine ⟨f, fd, m, F.kp, b, fn_raiseN F scHolds (fun vs H Q E h => ?_) (fun cdv A outer s H vs Q E hr h => ?_)⟩
  · obtain ⟨x, d, p, y, z, u, rfl, _⟩ := h
    rfl
  obtain ⟨x, d, p, y, z, u, rfl, hd, hp, h⟩ := h
  refine ⟨_, (pss_cons (ps_expr (pe_df DCheckClaim hr (L2N.passes_call (L2N.takes_of rfl rfl rfl rfl) (fun _ _ _ _ h => h)) (pa_cons (pv 0) pa_nil)))
  (pss_one (ps_ret (pe_df DHoldsAt hr pass0 (pa_cons (pv 0) (pa_cons (pv 1) pa_nil)))))), ?_⟩
  refine q_dropX (R := fun vs _ => vs = [x]) (eap_cons (P := fun v _ => v = x) (evp_var rfl fun _ _ => rfl) fun v H1 e1 hv => by subst hv; exact fun H2 e2 Q' q' => q' [] H2 (Ex.refl H2) rfl) fun vs H1 e1 hv => ?_
  subst hv
  rcases h with ⟨b, hb, out⟩ | ⟨c, hc, q1⟩
  · exact check_bad (hd.mo e1) hb (out.mo e1)
  · refine check_good (hd.mo e1) hc fun H2 e2 => ?_
    exact s_ret (ev_callV (ea_cons (ev_var rfl) (ea_cons (ev_var rfl) ea_nil)) (sv_holdsAt ((hd.mo e1).mo e2) ((hp.ex e1).ex e2) hc.2.1 hc.2.2.1 hc.2.2.2)) fun H5 e5 => q1 _ _ ((e1.trans e2).trans e5)
end
end Kf

set_option Elab.async false
set_option linter.all false
set_option maxRecDepth 100000
set_option maxHeartbeats 4000000
namespace Kf
open PySem L2 Evl
/-! ### trees whose lists are their own -/
def delL (H : Hp) (l : List Addr) : Hp := fun b => if b ∈ l then none else H b
theorem delL_in {H : Hp} {l : List Addr} {b : Addr} (h : b ∈ l) : delL H l b = none := if_pos h
theorem delL_out {H : Hp} {l : List Addr} {b : Addr} (h : b ∉ l) : delL H l b = H b := if_neg h
theorem ex_delL {H H' : Hp} {l : List Addr} (e : Ex H H') : Ex (delL H l) (delL H' l) := fun b o h => by
  by_cases z : b ∈ l
  · rw [delL_in z] at h; cases h
  · rw [delL_out z] at h ⊢; exact e _ _ h
theorem ex_delL_sub {H : Hp} {l l' : List Addr} (h : ∀ b ∈ l', b ∈ l) : Ex (delL H l) (delL H l') := fun b o e => by
  by_cases z : b ∈ l
  · rw [delL_in z] at e; cases e
  · rw [delL_out z] at e
    rw [delL_out fun q => z (h b q)]
    exact e
theorem delL_nil {H : Hp} : delL H [] = H := funext fun b => delL_out (fun h => nomatch h)
theorem ex_of_delL {H : Hp} {l : List Addr} : Ex (delL H l) H := fun b o e => by
  by_cases z : b ∈ l
  · rw [delL_in z] at e; cases e
  · rw [delL_out z] at e; exact e
def Ow (K : PySem.W.Frag) (H : Hp) (Al : List Addr) : Tr → V → List Addr → Prop
  | .x d, v, l => l = [] ∧ Rp K (delL H Al) v d
  | .is f g h r m, v, l => ∃ a b, v = .ref a ∧ l = [a, b] ∧ H a = some (.lst [.str "is", .ref b, .int r, .int m]) ∧ H b = some (.lst [.int f, .int g, .int h])
  | .not c, v, l => ∃ a w l', v = .ref a ∧ l = a :: l' ∧ H a = some (.lst [.str "not", w]) ∧ Ow K H Al c w l'
  | .bin o s t, v, l => ∃ a x y l1 l2, v = .ref a ∧ l = a :: (l1 ++ l2) ∧ H a = some (.lst [.str (binW o), x, y]) ∧ Ow K H Al s x l1 ∧ Ow K H Al t y l2
section
variable {K : PySem.W.Frag} {H H' : Hp} {Al Al' D : List Addr}
theorem ow_mo : ∀ {t : Tr} {v : V} {l : List Addr}, Ow K H Al t v l → (∀ b o, b ∈ l → H b = some o → H' b = some o) → Ex (delL H Al) (delL H' Al') → Ow K H' Al' t v l
  | .x d, v, l, h, _, e => ⟨h.1, h.2.mo e⟩
  | .is f g h r m, v, l, ⟨a, b, h1, h2, h3, h4⟩, k, _ => ⟨a, b, h1, h2, k _ _ (by rw [h2]; exact List.mem_cons_self) h3, k _ _ (by rw [h2]; exact List.mem_cons_of_mem _ List.mem_cons_self) h4⟩
  | .not c, v, l, ⟨a, w, l', h1, h2, h3, h4⟩, k, e => ⟨a, w, l', h1, h2, k _ _ (by rw [h2]; exact List.mem_cons_self) h3, ow_mo h4 (fun b o hb => k b o (by rw [h2]; exact List.mem_cons_of_mem _ hb)) e⟩
  | .bin o s t, v, l, ⟨a, x, y, l1, l2, h1, h2, h3, h4, h5⟩, k, e => ⟨a, x, y, l1, l2, h1, h2, k _ _ (by rw [h2]; exact List.mem_cons_self) h3,
      ow_mo h4 (fun b o hb => k b o (by rw [h2]; exact List.mem_cons_of_mem _ (List.mem_append_left _ hb))) e, ow_mo h5 (fun b o hb => k b o (by rw [h2]; exact List.mem_cons_of_mem _ (List.mem_append_right _ hb))) e⟩
theorem ow_ex {t : Tr} {v : V} {l : List Addr} (h : Ow K H Al t v l) (e : Ex H H') : Ow K H' Al t v l := ow_mo h (fun b o _ => e b o) (ex_delL e)
theorem ow_cell : ∀ {t : Tr} {v : V} {l : List Addr} {b : Addr}, Ow K H Al t v l → b ∈ l → ∃ xs, H b = some (.lst xs)
  | .x d, v, l, b, h, hb => by rw [h.1] at hb; exact nomatch hb
  | .is f g h r m, v, l, b, ⟨a, c, h1, h2, h3, h4⟩, hb => by
    rw [h2] at hb
    rcases List.mem_cons.mp hb with rfl | hb
    · exact ⟨_, h3⟩
    · rw [List.mem_singleton.mp hb]; exact ⟨_, h4⟩
  | .not c, v, l, b, ⟨a, w, l', h1, h2, h3, h4⟩, hb => by
    rw [h2] at hb
    rcases List.mem_cons.mp hb with rfl | hb
    · exact ⟨_, h3⟩
    · exact ow_cell h4 hb
  | .bin o s t, v, l, b, ⟨a, x, y, l1, l2, h1, h2, h3, h4, h5⟩, hb => by
    rw [h2] at hb
    rcases List.mem_cons.mp hb with rfl | hb
    · exact ⟨_, h3⟩
    · rcases List.mem_append.mp hb with hb | hb
      · exact ow_cell h4 hb
      · exact ow_cell h5 hb
/-- its data, some lists left out of sight -/
theorem ow_rp : ∀ {t : Tr} {v : V} {l : List Addr}, Ow K H Al t v l → (∀ b ∈ l, b ∉ D) → Ex (delL H Al) (delL H D) → Rp K (delL H D) v t.data
  | .x d, v, l, h, _, e => h.2.mo e
  | .is f g h r m, v, l, ⟨a, b, h1, h2, h3, h4⟩, k, _ => by
    have ka := k a (by rw [h2]; exact List.mem_cons_self)
    have kb := k b (by rw [h2]; exact List.mem_cons_of_mem _ List.mem_cons_self)
    rw [h1]
    exact .of_list (by rw [delL_out ka]; exact h3) (.cons (.str _) (.cons (.of_list (by rw [delL_out kb]; exact h4) (RpAll.ints [f, g, h])) (.cons (.int _) (.cons (.int _) .nil))))
  | .not c, v, l, ⟨a, w, l', h1, h2, h3, h4⟩, k, e => by
    have ka := k a (by rw [h2]; exact List.mem_cons_self)
    rw [h1]
    exact .of_list (by rw [delL_out ka]; exact h3) (.cons (.str _) (.cons (ow_rp h4 (fun b hb => k b (by rw [h2]; exact List.mem_cons_of_mem _ hb)) e) .nil))
  | .bin o s t, v, l, ⟨a, x, y, l1, l2, h1, h2, h3, h4, h5⟩, k, e => by
    have ka := k a (by rw [h2]; exact List.mem_cons_self)
    rw [h1]
    exact .of_list (by rw [delL_out ka]; exact h3) (.cons (.str _) (.cons (ow_rp h4 (fun b hb => k b (by rw [h2]; exact List.mem_cons_of_mem _ (List.mem_append_left _ hb))) e)
      (.cons (ow_rp h5 (fun b hb => k b (by rw [h2]; exact List.mem_cons_of_mem _ (List.mem_append_right _ hb))) e) .nil)))
/-- down a path of lists -/
def follow (H : Hp) : V → List Int → Option V
  | v, [] => some v
  | .ref a, i :: p => match H a with
    | some (.lst xs) => (atI xs i).bind fun y => follow H y p
    | _ => none
  | _, _ :: _ => none
theorem follow_step {v w : V} {i : Int} {p : List Int} (h : follow H v (i :: p) = some w) : ∃ a xs y, v = .ref a ∧ H a = some (.lst xs) ∧ atI xs i = some y ∧ follow H y p = some w := by
  cases v with
  | ref a =>
    have h' : (match H a with
      | some (.lst xs) => (atI xs i).bind fun y => follow H y p
      | _ => none) = some w := h
    cases e : H a with
    | none => rw [e] at h'; cases h'
    | some o =>
      rw [e] at h'
      cases o with
      | lst xs =>
        have h2 : ((atI xs i).bind fun y => follow H y p) = some w := h'
        cases e2 : atI xs i with
        | none => rw [e2] at h2; cases h2
        | some y => rw [e2] at h2; exact ⟨a, xs, y, rfl, e, e2, h2⟩
      | _ => cases h'
  | _ => cases h
theorem follow_of {a : Addr} {xs : List V} {y w : V} {i : Int} {p : List Int} (h1 : H a = some (.lst xs)) (h2 : atI xs i = some y) (h3 : follow H y p = some w) : follow H (.ref a) (i :: p) = some w := by
  show (match H a with
    | some (.lst xs) => (atI xs i).bind fun y => follow H y p
    | _ => none) = some w
  rw [h1]
  show (atI xs i).bind (fun y => follow H y p) = some w
  rw [h2]
  exact h3
theorem follow_mo (e : Ex H H') : ∀ {p : List Int} {v w : V}, follow H v p = some w → follow H' v p = some w
  | [], v, w, h => h
  | i :: p, v, w, h => by
    obtain ⟨a, xs, y, rfl, h1, h2, h3⟩ := follow_step h
    exact follow_of (e _ _ h1) h2 (follow_mo e h3)
theorem nd_cons {a : Addr} {l : List Addr} (h : (a :: l).Nodup) : a ∉ l ∧ l.Nodup := List.nodup_cons.mp h
theorem nd_app {l m : List Addr} (h : (l ++ m).Nodup) : l.Nodup ∧ m.Nodup ∧ ∀ b ∈ l, b ∉ m := by
  have k := List.nodup_append.mp h
  exact ⟨k.1, k.2.1, fun b hb hm => k.2.2 b hb b hm rfl⟩
theorem nd_mk {l m : List Addr} (h1 : l.Nodup) (h2 : m.Nodup) (h3 : ∀ b ∈ l, b ∉ m) : (l ++ m).Nodup := List.nodup_append.mpr ⟨h1, h2, fun a ha b hb e => h3 a ha (by rw [e]; exact hb)⟩
theorem nd_one (a : Addr) : [a].Nodup := List.nodup_cons.mpr ⟨fun h => (nomatch h), List.nodup_nil⟩
/-- what a node is when it is spoilt: its parent's list, its place there, and the tree afterwards -/
def PutAt (K : PySem.W.Frag) (H : Hp) (Al : List Addr) (t : Tr) (v : V) (l : List Addr) (i : Nat) : Prop :=
  ∃ (q : List Int) (last : Nat) (pa : Addr) (xs : List V) (w : V) (s : Tr) (ls l' : List Addr),
    t.paths[i]? = some (q ++ [(last : Int)]) ∧ follow H v q = some (.ref pa) ∧ H pa = some (.lst xs) ∧ xs[last]? = some w ∧ s.real 0 = true ∧ (t.Ok → s.Ok) ∧ (t.data.thin = true → s.data.thin = true) ∧ s.data.dep + 1 ≤ t.data.dep ∧ Ow K H Al s w ls ∧ pa ∈ l' ∧ l'.Nodup ∧ (∀ b ∈ ls, b ∉ l') ∧ (∀ b ∈ l', b ∈ l) ∧ (∀ b ∈ ls, b ∈ l) ∧
    ∀ (H2 : Hp) (Al2 : List Addr) (w' : V) (d : Py), (∀ b o, b ∈ l' → b ≠ pa → H b = some o → H2 b = some o) → H2 pa = some (.lst (xs.set last w')) → Ex (delL H Al) (delL H2 Al2) → Rp K (delL H2 Al2) w' d → Ow K H2 Al2 (t.put i (.x d)) v l'
theorem thin_not {c : Tr} (h : (Tr.not c).data.thin = true) : c.data.thin = true := thins_get (i := 1) (thin_lst h).2 rfl
theorem thin_bin {o : Bool} {a b : Tr} (h : (Tr.bin o a b).data.thin = true) : a.data.thin = true ∧ b.data.thin = true := ⟨thins_get (i := 1) (thin_lst h).2 rfl, thins_get (i := 2) (thin_lst h).2 rfl⟩
theorem put_zero (t u : Tr) : t.put 0 u = u := by cases t <;> rfl
theorem ow_put : ∀ (t : Tr) (v : V) (l : List Addr) (i : Nat), Ow K H Al t v l → l.Nodup → 0 < i → i < t.size → t.real i = true → PutAt K H Al t v l i
  | .x _, v, l, i, h, nd, h0, hi, hr => absurd hi (by show ¬ i < 1; omega)
  | .is .., v, l, i, h, nd, h0, hi, hr => absurd hi (by show ¬ i < 1; omega)
  | .not c, v, l, 1, ⟨a, w, lc, h1, h2, h3, h4⟩, nd, h0, hi, hr => by
    subst h1 h2
    obtain ⟨na, nc⟩ := nd_cons nd
    refine ⟨[], 1, a, _, w, c, lc, [a], by rw [Tr.path_not, Tr.path_zero] <;> rfl, rfl, h3, rfl, hr, fun ok => ok, fun th => thin_not th, by show c.data.dep + 1 ≤ max 0 (max c.data.dep 0) + 1; omega, h4, List.mem_singleton.mpr rfl, nd_one a, fun b hb e => na (by rw [← List.mem_singleton.mp e]; exact hb), fun b hb => by rw [List.mem_singleton.mp hb]; exact List.mem_cons_self, fun b hb => List.mem_cons_of_mem _ hb, fun H2 Al2 w' d k1 k2 k3 k4 => ?_⟩
    show Ow K H2 Al2 (.not (c.put 0 (.x d))) _ _
    rw [put_zero]
    exact ⟨a, w', [], rfl, rfl, k2, rfl, k4⟩
  | .not c, v, l, i + 2, ⟨a, w, lc, h1, h2, h3, h4⟩, nd, h0, hi, hr => by
    subst h1 h2
    obtain ⟨na, nc⟩ := nd_cons nd
    obtain ⟨q, last, pa, xs, w2, s, ls, l', g1, g2, g3, g4, g5, g6, g6b, g7, g8, g9, g10, g11, g12, g14, g13⟩ := ow_put c w lc (i + 1) h4 nc (Nat.succ_pos i) (Nat.lt_of_succ_lt_succ hi) hr
    have npa : a ≠ pa := fun e => na (by rw [e]; exact g12 _ g9)
    have nal : a ∉ l' := fun e => na (g12 _ e)
    have nas : a ∉ ls := fun e => na (g14 _ e)
    refine ⟨1 :: q, last, pa, xs, w2, s, ls, a :: l', by rw [Tr.path_not, g1] <;> rfl, follow_of h3 rfl g2, g3, g4, g5, g6, fun th => g6b (thin_not th), ?_, g8, List.mem_cons_of_mem _ g9, List.nodup_cons.mpr ⟨nal, g10⟩, ?_, ?_, ?_, fun H2 Al2 w' d k1 k2 k3 k4 => ?_⟩
    · show s.data.dep + 1 ≤ max 0 (max c.data.dep 0) + 1
      omega
    · intro b hb e
      rcases List.mem_cons.mp e with rfl | e
      · exact nas hb
      · exact g11 b hb e
    · intro b hb
      rcases List.mem_cons.mp hb with rfl | hb
      · exact List.mem_cons_self
      · exact List.mem_cons_of_mem _ (g12 b hb)
    · exact fun b hb => List.mem_cons_of_mem _ (g14 b hb)
    · exact ⟨a, w, l', rfl, rfl, k1 _ _ List.mem_cons_self npa h3, g13 H2 Al2 w' d (fun b o hb => k1 b o (List.mem_cons_of_mem _ hb)) k2 k3 k4⟩
  | .bin o s1 s2, v, l, i + 1, ⟨a, x, y, l1, l2, h1, h2, h3, h4, h5⟩, nd, h0, hi, hr => by
    subst h1 h2
    obtain ⟨na, nc⟩ := nd_cons nd
    obtain ⟨n1, n2, n12⟩ := nd_app nc
    have na1 : a ∉ l1 := fun e => na (List.mem_append_left _ e)
    have na2 : a ∉ l2 := fun e => na (List.mem_append_right _ e)
    have hi' : i + 1 < s1.size + s2.size + 1 := hi
    have dd : (Tr.bin o s1 s2).data.dep = max 0 (max s1.data.dep (max s2.data.dep 0)) + 1 := rfl
    have ep : ∀ u, (Tr.bin o s1 s2).put (i + 1) u = if i < s1.size then .bin o (s1.put i u) s2 else .bin o s1 (s2.put (i - s1.size) u) := fun u => rfl
    have er : (if i < s1.size then s1.real i else s2.real (i - s1.size)) = true := hr
    by_cases hs : i < s1.size
    · rw [if_pos hs] at er
      by_cases hz : i = 0
      · subst hz
        refine ⟨[], 1, a, _, x, s1, l1, a :: l2, by rw [Tr.path_bin, if_pos hs, Tr.path_zero] <;> rfl, rfl, h3, rfl, er, fun ok => ok.1, fun th => (thin_bin th).1, by rw [dd]; omega, h4, List.mem_cons_self, List.nodup_cons.mpr ⟨na2, n2⟩, ?_, ?_, fun b hb => List.mem_cons_of_mem _ (List.mem_append_left _ hb), fun H2 Al2 w' d k1 k2 k3 k4 => ?_⟩
        · intro b hb e
          rcases List.mem_cons.mp e with rfl | e
          · exact na1 hb
          · exact n12 b hb e
        · intro b hb
          rcases List.mem_cons.mp hb with rfl | hb
          · exact List.mem_cons_self
          · exact List.mem_cons_of_mem _ (List.mem_append_right _ hb)
        · rw [ep, if_pos hs, put_zero]
          exact ⟨a, w', y, [], l2, rfl, rfl, k2, ⟨rfl, k4⟩, ow_mo h5 (fun b o hb hh => k1 b o (List.mem_cons_of_mem _ hb) (fun e => na2 (by rw [← e]; exact hb)) hh) k3⟩
      · obtain ⟨q, last, pa, xs, w2, s, ls, l', g1, g2, g3, g4, g5, g6, g6b, g7, g8, g9, g10, g11, g12, g14, g13⟩ := ow_put s1 x l1 i h4 n1 (by omega) hs er
        have npa : a ≠ pa := fun e => na1 (by rw [e]; exact g12 _ g9)
        refine ⟨1 :: q, last, pa, xs, w2, s, ls, a :: (l' ++ l2), by rw [Tr.path_bin, if_pos hs, g1] <;> rfl, follow_of h3 rfl g2, g3, g4, g5, fun ok => g6 ok.1, fun th => g6b (thin_bin th).1, by rw [dd]; omega, g8, List.mem_cons_of_mem _ (List.mem_append_left _ g9), ?_, ?_, ?_, ?_, fun H2 Al2 w' d k1 k2 k3 k4 => ?_⟩
        · refine List.nodup_cons.mpr ⟨fun e => ?_, nd_mk g10 n2 fun b hb => n12 b (g12 b hb)⟩
          rcases List.mem_append.mp e with e | e
          · exact na1 (g12 _ e)
          · exact na2 e
        · intro b hb e
          rcases List.mem_cons.mp e with rfl | e
          · exact na1 (g14 _ hb)
          · rcases List.mem_append.mp e with e | e
            · exact g11 b hb e
            · exact n12 b (g14 b hb) e
        · intro b hb
          rcases List.mem_cons.mp hb with rfl | hb
          · exact List.mem_cons_self
          · rcases List.mem_append.mp hb with hb | hb
            · exact List.mem_cons_of_mem _ (List.mem_append_left _ (g12 b hb))
            · exact List.mem_cons_of_mem _ (List.mem_append_right _ hb)
        · exact fun b hb => List.mem_cons_of_mem _ (List.mem_append_left _ (g14 b hb))
        · rw [ep, if_pos hs]
          exact ⟨a, x, y, l', l2, rfl, rfl, k1 _ _ List.mem_cons_self npa h3, g13 H2 Al2 w' d (fun b o hb => k1 b o (List.mem_cons_of_mem _ (List.mem_append_left _ hb))) k2 k3 k4,
            ow_mo h5 (fun b o hb hh => k1 b o (List.mem_cons_of_mem _ (List.mem_append_right _ hb)) (fun e => n12 pa (g12 _ g9) (by rw [← e]; exact hb)) hh) k3⟩
    · rw [if_neg hs] at er
      by_cases hz : i - s1.size = 0
      · refine ⟨[], 2, a, _, y, s2, l2, a :: l1, by rw [Tr.path_bin, if_neg hs, hz, Tr.path_zero] <;> rfl, rfl, h3, rfl, by rw [hz] at er; exact er, fun ok => ok.2, fun th => (thin_bin th).2, by rw [dd]; omega, h5, List.mem_cons_self, List.nodup_cons.mpr ⟨na1, n1⟩, ?_, ?_, fun b hb => List.mem_cons_of_mem _ (List.mem_append_right _ hb), fun H2 Al2 w' d k1 k2 k3 k4 => ?_⟩
        · intro b hb e
          rcases List.mem_cons.mp e with rfl | e
          · exact na2 hb
          · exact n12 b e hb
        · intro b hb
          rcases List.mem_cons.mp hb with rfl | hb
          · exact List.mem_cons_self
          · exact List.mem_cons_of_mem _ (List.mem_append_left _ hb)
        · rw [ep, if_neg hs, hz, put_zero]
          exact ⟨a, x, w', l1, [], rfl, by rw [List.append_nil], k2, ow_mo h4 (fun b o hb hh => k1 b o (List.mem_cons_of_mem _ hb) (fun e => na1 (by rw [← e]; exact hb)) hh) k3, ⟨rfl, k4⟩⟩
      · obtain ⟨q, last, pa, xs, w2, s, ls, l', g1, g2, g3, g4, g5, g6, g6b, g7, g8, g9, g10, g11, g12, g14, g13⟩ := ow_put s2 y l2 (i - s1.size) h5 n2 (by omega) (by omega) er
        have npa : a ≠ pa := fun e => na2 (by rw [e]; exact g12 _ g9)
        refine ⟨2 :: q, last, pa, xs, w2, s, ls, a :: (l1 ++ l'), by rw [Tr.path_bin, if_neg hs, g1] <;> rfl, follow_of h3 rfl g2, g3, g4, g5, fun ok => g6 ok.2, fun th => g6b (thin_bin th).2, by rw [dd]; omega, g8, List.mem_cons_of_mem _ (List.mem_append_right _ g9), ?_, ?_, ?_, ?_, fun H2 Al2 w' d k1 k2 k3 k4 => ?_⟩
        · refine List.nodup_cons.mpr ⟨fun e => ?_, nd_mk n1 g10 fun b hb hm => n12 b hb (g12 b hm)⟩
          rcases List.mem_append.mp e with e | e
          · exact na1 e
          · exact na2 (g12 _ e)
        · intro b hb e
          rcases List.mem_cons.mp e with rfl | e
          · exact na2 (g14 _ hb)
          · rcases List.mem_append.mp e with e | e
            · exact n12 b e (g14 b hb)
            · exact g11 b hb e
        · intro b hb
          rcases List.mem_cons.mp hb with rfl | hb
          · exact List.mem_cons_self
          · rcases List.mem_append.mp hb with hb | hb
            · exact List.mem_cons_of_mem _ (List.mem_append_left _ hb)
            · exact List.mem_cons_of_mem _ (List.mem_append_right _ (g12 b hb))
        · exact fun b hb => List.mem_cons_of_mem _ (List.mem_append_right _ (g14 b hb))
        · rw [ep, if_neg hs]
          exact ⟨a, x, y, l1, l', rfl, rfl, k1 _ _ List.mem_cons_self npa h3, ow_mo h4 (fun b o hb hh => k1 b o (List.mem_cons_of_mem _ (List.mem_append_left _ hb)) (fun e => n12 b hb (by rw [e]; exact g12 _ g9)) hh) k3,
            g13 H2 Al2 w' d (fun b o hb => k1 b o (List.mem_cons_of_mem _ (List.mem_append_right _ hb))) k2 k3 k4⟩
theorem dep_put (d : Py) : ∀ (t : Tr) (i : Nat), (t.put i (.x d)).data.dep ≤ t.data.dep + d.dep
  | t, 0 => by rw [put_zero]; exact Nat.le_add_left _ _
  | .x _, i + 1 => Nat.le_add_right _ _
  | .is .., i + 1 => Nat.le_add_right _ _
  | .not c, i + 1 => by
    have k := dep_put d c i
    show max 0 (max (c.put i (.x d)).data.dep 0) + 1 ≤ max 0 (max c.data.dep 0) + 1 + d.dep
    omega
  | .bin o a b, i + 1 => by
    have ka := dep_put d a i
    have kb := dep_put d b (i - a.size)
    show (if i < a.size then Tr.bin o (a.put i (.x d)) b else .bin o a (b.put (i - a.size) (.x d))).data.dep ≤ max 0 (max a.data.dep (max b.data.dep 0)) + 1 + d.dep
    split
    · show max 0 (max (a.put i (.x d)).data.dep (max b.data.dep 0)) + 1 ≤ _
      omega
    · show max 0 (max a.data.dep (max (b.put (i - a.size) (.x d)).data.dep 0)) + 1 ≤ _
      omega
theorem mk_thin_not {c : Tr} (h : c.data.thin = true) : (Tr.not c).data.thin = true := by
  show (decide (2 ≤ 1000) && (true && (c.data.thin && true))) = true
  rw [h] <;> rfl
theorem mk_thin_bin {o : Bool} {a b : Tr} (h1 : a.data.thin = true) (h2 : b.data.thin = true) : (Tr.bin o a b).data.thin = true := by
  show (decide (3 ≤ 1000) && (true && (a.data.thin && (b.data.thin && true)))) = true
  rw [h1, h2] <;> rfl
theorem thin_put {d : Py} (hd : d.thin = true) : ∀ (t : Tr) (i : Nat), t.data.thin = true → (t.put i (.x d)).data.thin = true
  | t, 0, _ => by rw [put_zero]; exact hd
  | .x _, i + 1, h => h
  | .is .., i + 1, h => h
  | .not c, i + 1, h => mk_thin_not (thin_put hd c i (thin_not h))
  | .bin o a b, i + 1, h => by
    show (if i < a.size then Tr.bin o (a.put i (.x d)) b else .bin o a (b.put (i - a.size) (.x d))).data.thin = true
    split
    · exact mk_thin_bin (thin_put hd a i (thin_bin h).1) (thin_bin h).2
    · exact mk_thin_bin (thin_bin h).1 (thin_put hd b _ (thin_bin h).2)
theorem ok_put {d : Py} (hd : BadD d) : ∀ (t : Tr) (i : Nat), t.Ok → (t.put i (.x d)).Ok
  | t, 0, _ => by rw [put_zero]; exact hd
  | .x _, i + 1, h => h
  | .is .., i + 1, h => h
  | .not c, i + 1, h => ok_put hd c i h
  | .bin o a b, i + 1, h => by
    show (if i < a.size then Tr.bin o (a.put i (.x d)) b else .bin o a (b.put (i - a.size) (.x d))).Ok
    split
    · exact ⟨ok_put hd a i h.1, h.2⟩
    · exact ⟨h.1, ok_put hd b _ h.2⟩
theorem Cl.tr_thin : ∀ c : Cl, c.tr.data.thin = true
  | .is .. => rfl
  | .not c => mk_thin_not c.tr_thin
  | .and a b => mk_thin_bin a.tr_thin b.tr_thin
  | .or a b => mk_thin_bin a.tr_thin b.tr_thin
theorem Cl.tr_dep : ∀ c : Cl, c.tr.data.dep ≤ c.depth + 1
  | .is .. => Nat.le_refl 2
  | .not c => by
    have k := c.tr_dep
    show max 0 (max c.tr.data.dep 0) + 1 ≤ c.depth + 1 + 1
    omega
  | .and a b => by
    have ka := a.tr_dep
    have kb := b.tr_dep
    show max 0 (max a.tr.data.dep (max b.tr.data.dep 0)) + 1 ≤ max a.depth b.depth + 1 + 1
    omega
  | .or a b => by
    have ka := a.tr_dep
    have kb := b.tr_dep
    show max 0 (max a.tr.data.dep (max b.tr.data.dep 0)) + 1 ≤ max a.depth b.depth + 1 + 1
    omega
/-- a tree of one's own, made after Hb -/
def Tree (K : PySem.W.Frag) (Hb : Hp) (t : Tr) : Pr := fun v H => ∃ l, Ow K H l t v l ∧ l.Nodup ∧ ∀ b ∈ l, Hb b = none
theorem Tree.rp {Hb : Hp} {t : Tr} {v : V} (h : Tree K Hb t v H) : Rp K H v t.data := by
  obtain ⟨l, h1, _⟩ := h
  have k := ow_rp (D := []) h1 (fun b _ => fun z => nomatch z) (by rw [delL_nil]; exact ex_of_delL)
  rw [delL_nil] at k
  exact k
theorem Tree.mo {Hb : Hp} {t : Tr} {v : V} (h : Tree K Hb t v H) (e : Ex H H') : Tree K Hb t v H' := by
  obtain ⟨l, h1, h2, h3⟩ := h
  exact ⟨l, ow_ex h1 e, h2, h3⟩
theorem Tree.back {Hb Hb' : Hp} {t : Tr} {v : V} (h : Tree K Hb' t v H) (e : Ex Hb Hb') : Tree K Hb t v H := by
  obtain ⟨l, h1, h2, h3⟩ := h
  exact ⟨l, h1, h2, fun b hb => fresh_back e (h3 b hb)⟩
end
end Kf

set_option Elab.async false
set_option linter.all false
set_option maxRecDepth 100000
set_option maxHeartbeats 4000000
namespace Kf
open PySem L2 Evl
section
variable {K : PySem.W.Frag} {σ : L2.St} {H H' : Hp} {ta tb te : TE} {tr : TA} {D : Ends} {tz : TS}
/-- x = [w, s.pop()] -/
theorem s_lstPop {i j : Nat} {l : Addr} {xs : List V} {x w : V} (hs : σ[i]? = some (some (.ref l))) (hl : H l = some (.lst (xs ++ [x]))) (k : ∀ p, (upd H l (.lst xs)) p = none → D.nx (σ.set j (some (.ref p))) (upd (upd H l (.lst xs)) p (.lst [w, x]))) :
    tAsg (tLst (tCons (tC w) (tCons (tBM0 K "list" rPop (tVar i)) tNil))) (gName j) D σ H :=
  ⟨_, hs, Or.inl ⟨rfl, _, sq_of hl⟩, l, _, x, rfl, rfl, hl, last_snoc xs x, sz_of (by show 2 ≤ 100000; decide), fun p hp => by
    rw [List.dropLast_concat] at hp ⊢
    exact k p hp⟩
/-- x = [e, s.pop(), y] -/
theorem s_lstPop3 {i j n : Nat} {l : Addr} {xs : List V} {x y w : V} (he : Ev te σ H w) (hs : σ[i]? = some (some (.ref l))) (hn : σ[n]? = some (some y)) (hl : H l = some (.lst (xs ++ [x])))
    (k : ∀ H1 p, Ex H H1 → (upd H1 l (.lst xs)) p = none → D.nx (σ.set j (some (.ref p))) (upd (upd H1 l (.lst xs)) p (.lst [w, x, y]))) :
    tAsg (tLst (tCons te (tCons (tBM0 K "list" rPop (tVar i)) (tCons (tVar n) tNil)))) (gName j) D σ H :=
  he H (Ex.refl H) _ fun H1 e1 => ⟨_, hs, Or.inl ⟨rfl, _, sq_of (e1 _ _ hl)⟩, l, _, x, rfl, rfl, e1 _ _ hl, last_snoc xs x, _, hn, sz_of (by show 3 ≤ 100000; decide), fun p hp => by
    rw [List.dropLast_concat] at hp ⊢
    exact k H1 p e1 hp⟩
def rTupOf (K : PySem.W.Frag) : List V → Hp → VK → Prop := fun xs H Q => ∃ p ys, xs = [.ref p] ∧ ((SqL K H p ys ∧ ∀ l, H l = none → Q (.ref l) (upd H l (.tup ys))) ∨ (SqT K H p ys ∧ Q (.ref p) H))
theorem eu_tupOf {p : Addr} {xs : List V} (ha : Ev ta σ H (.ref p)) (h : SqL K H p xs) : EvU (tCB (rTupOf K) (tCons ta tNil)) σ H xs := fun H1 e Q q =>
  ha H1 e _ fun H2 e2 => ⟨p, xs, rfl, .inl ⟨ex_l (e.trans e2) h, fun l hl => q l _ (fresh_back e2 hl) (e2.trans (Ex.new hl)) upd_same⟩⟩
end
/-- a stack of trees, its top first -/
def OwS (K : PySem.W.Frag) (H : Hp) : List Cl → List V → List Addr → Prop
  | [], [], l => l = []
  | c :: s, v :: vs, l => ∃ l1 l2, l = l1 ++ l2 ∧ Ow K H [] c.tr v l1 ∧ OwS K H s vs l2
  | _, _, _ => False
section
variable {K : PySem.W.Frag} {H H' : Hp}
/-- a claim has no strange data -/
theorem ow_pure {Al Al' : List Addr} : ∀ {c : Cl} {v : V} {l : List Addr}, Ow K H Al c.tr v l → (∀ b o, b ∈ l → H b = some o → H' b = some o) → Ow K H' Al' c.tr v l
  | .is f g h r m, v, l, ⟨a, b, h1, h2, h3, h4⟩, k => ⟨a, b, h1, h2, k _ _ (by rw [h2]; exact List.mem_cons_self) h3, k _ _ (by rw [h2]; exact List.mem_cons_of_mem _ List.mem_cons_self) h4⟩
  | .not c, v, l, ⟨a, w, l', h1, h2, h3, h4⟩, k => ⟨a, w, l', h1, h2, k _ _ (by rw [h2]; exact List.mem_cons_self) h3, ow_pure h4 fun b o hb => k b o (by rw [h2]; exact List.mem_cons_of_mem _ hb)⟩
  | .and s t, v, l, ⟨a, x, y, l1, l2, h1, h2, h3, h4, h5⟩, k => ⟨a, x, y, l1, l2, h1, h2, k _ _ (by rw [h2]; exact List.mem_cons_self) h3,
      ow_pure h4 (fun b o hb => k b o (by rw [h2]; exact List.mem_cons_of_mem _ (List.mem_append_left _ hb))), ow_pure h5 fun b o hb => k b o (by rw [h2]; exact List.mem_cons_of_mem _ (List.mem_append_right _ hb))⟩
  | .or s t, v, l, ⟨a, x, y, l1, l2, h1, h2, h3, h4, h5⟩, k => ⟨a, x, y, l1, l2, h1, h2, k _ _ (by rw [h2]; exact List.mem_cons_self) h3,
      ow_pure h4 (fun b o hb => k b o (by rw [h2]; exact List.mem_cons_of_mem _ (List.mem_append_left _ hb))), ow_pure h5 fun b o hb => k b o (by rw [h2]; exact List.mem_cons_of_mem _ (List.mem_append_right _ hb))⟩
theorem ows_mo : ∀ {s : List Cl} {vs : List V} {l : List Addr}, OwS K H s vs l → (∀ b o, b ∈ l → H b = some o → H' b = some o) → OwS K H' s vs l
  | [], [], l, h, _ => h
  | c :: s, v :: vs, l, ⟨l1, l2, h1, h2, h3⟩, k => ⟨l1, l2, h1, ow_pure h2 (fun b o hb => k b o (by rw [h1]; exact List.mem_append_left _ hb)), ows_mo h3 fun b o hb => k b o (by rw [h1]; exact List.mem_append_right _ hb)⟩
  | [], _ :: _, _, h, _ => h.elim
  | _ :: _, [], _, h, _ => h.elim
theorem ows_cell : ∀ {s : List Cl} {vs : List V} {l : List Addr} {b : Addr}, OwS K H s vs l → b ∈ l → ∃ xs, H b = some (.lst xs)
  | [], [], l, b, h, hb => by rw [show l = [] from h] at hb; exact nomatch hb
  | c :: s, v :: vs, l, b, ⟨l1, l2, h1, h2, h3⟩, hb => by
    rw [h1] at hb
    rcases List.mem_append.mp hb with hb | hb
    · exact ow_cell h2 hb
    · exact ows_cell h3 hb
  | [], _ :: _, _, _, h, _ => h.elim
  | _ :: _, [], _, _, h, _ => h.elim
theorem ows_len : ∀ {s : List Cl} {vs : List V} {l : List Addr}, OwS K H s vs l → vs.length = s.length
  | [], [], _, _ => rfl
  | c :: s, v :: vs, _, ⟨_, _, _, _, h3⟩ => congrArg (· + 1) (ows_len h3)
  | [], _ :: _, _, h => h.elim
  | _ :: _, [], _, h => h.elim
end
def spBuilt1 (K : PySem.W.Frag) : Sp := fun vs H Q _ => ∃ (pc : Addr) (t : Cl), vs = [.ref pc, .int 1] ∧ CodeAt K H pc t.post ∧ t.depth ≤ 12 ∧ ∀ v H', Ex H H' → Tree K H t.tr v H' → Q v H'
section
variable {P : Program} {w : World} {K : PySem.W.Frag} {mg : Str → Option Value} {base : Heap} {H : Hp}
abbrev sLawBuilt : Stmt := top 37
theorem scLawBuilt : FnScope ["code", "mode", "stack", "k", "part", "factors", "made", "two"] ["code", "mode"] (defScope sLawBuilt) := ⟨rfl, rfl, rfl, by decide +kernel, rfl, by decide +kernel, by decide +kernel⟩
theorem df_built1 (B : Bi mg) (S : At K mg "_law_built" sLawBuilt ["code", "mode"]) : Df P w K mg base CX0 "_law_built" 1 ["code", "mode"] (spBuilt1 K) := by
  obtain ⟨f, fd, F, m, b⟩ := S
  refine ⟨f, fd, m, F.kp, b, F.ok scLawBuilt (fun vs H Q E h => ?_) (fun cdv A outer s H vs Q E hr h => ?_)⟩
  · obtain ⟨pc, t, rfl, _⟩ := h
    rfl
  obtain ⟨pc, t, rfl, ⟨vs, hv, hp⟩, td, q⟩ := h
  refine ⟨_, (pss_cons (ps_set (i := 2) scLawBuilt.nd rfl (Or.inl rfl) (pe_lst pa_nil))
  (pss_cons (ps_for PassesOwn.never rfl (pi_range1 rfl B.range (pa_cons (pe_callB call_len_seq rfl B.len PySem.boot_len (pa_cons (pv 0) pa_nil)) pa_nil)) (pg_name (i := 3) scLawBuilt.nd rfl (Or.inl rfl)) (pss_cons (ps_set (i := 4) scLawBuilt.nd rfl (Or.inl rfl) (pe_ix ix_list (pv 0) (pv 3) (fun _ _ => rfl)))
  (pss_cut (ps_if (pt_cmpR op_eq (pe_ix ix_tup (pv 4) pe_int (fun _ _ => rfl)) pe_str (nomark _)) (pss_cons (ps_set (i := 5) scLawBuilt.nd rfl (Or.inl rfl) (pe_ix ix_tup (pv 4) pe_int (fun _ _ => rfl)))
  (pss_cons (ps_if (PW.pt (pw_or (pt_cmpR op_eq (pv 1) pe_int (nomark _)) (pw_or1 (PW.pt (pw_and (pt_cmpR op_eq (pv 1) pe_int (nomark _)) (pw_and1 (pt_cmpR op_eq (pe_op op_mod (pe_callTy call_int1 rfl B.int PyProof.Rows.boot_int (pa_cons (pv 3) pa_nil)) pe_int) pe_int (nomark _)))))))) (pss_one (ps_set (i := 5) scLawBuilt.nd rfl (Or.inl rfl) (pe_callTy call_list_of rfl B.list PyProof.Rows.boot_list (pa_cons (pe_ix ix_tup (pv 4) pe_int (fun _ _ => rfl)) pa_nil)))) pss_nil)
  (pss_one (ps_set (i := 6) scLawBuilt.nd rfl (Or.inl rfl) (pe_lst (pa_cons pe_str (pa_cons (pv 5) (pa_cons (pe_ix ix_tup (pv 4) pe_int (fun _ _ => rfl)) (pa_cons (pe_ix ix_tup (pv 4) pe_int (fun _ _ => rfl)) pa_nil))))))))) (pss_one (ps_if (pt_cmpR op_eq (pe_ix ix_tup (pv 4) pe_int (fun _ _ => rfl)) pe_str (nomark _)) (pss_one (ps_set (i := 6) scLawBuilt.nd rfl (Or.inl rfl) (pe_lst (pa_cons pe_str (pa_cons (pe_bm0 PySem.F.plainAttrs_list PySem.F.slot_list_pop PySem.F.type_list_pop mt_pop (pv 2)) pa_nil))))) (pss_cons (ps_set (i := 7) scLawBuilt.nd rfl (Or.inl rfl) (pe_bm0 PySem.F.plainAttrs_list PySem.F.slot_list_pop PySem.F.type_list_pop mt_pop (pv 2)))
  (pss_one (ps_set (i := 6) scLawBuilt.nd rfl (Or.inl rfl) (pe_lst (pa_cons (pe_ix ix_tup (pv 4) pe_int (fun _ _ => rfl)) (pa_cons (pe_bm0 PySem.F.plainAttrs_list PySem.F.slot_list_pop PySem.F.type_list_pop mt_pop (pv 2)) (pa_cons (pv 7) pa_nil))))))))))
  (pss_cons (ps_if (PW.pt (pw_or (pt_cmpR op_eq (pv 1) pe_int (nomark _)) (pw_or1 (PW.pt (pw_and (pt_cmpR op_eq (pv 1) pe_int (nomark _)) (pw_and1 (pt_cmpR op_eq (pe_op op_mod (pe_callTy call_int1 rfl B.int PyProof.Rows.boot_int (pa_cons (pv 3) pa_nil)) pe_int) pe_int (nomark _)))))))) (pss_one (ps_set (i := 6) scLawBuilt.nd rfl (Or.inl rfl) (pe_callTy call_tuple_of rfl B.tuple PyProof.Rows.boot_tuple (pa_cons (pv 6) pa_nil)))) pss_nil)
  (pss_one (ps_expr (pe_bm PySem.F.plainAttrs_list PySem.F.slot_list_append PySem.F.type_list_append mt_append (pv 2) (pa_cons (pv 6) pa_nil))))))))
  (pss_one (ps_ret (pe_ix ix_list (pv 2) pe_int (fun _ _ => rfl)))))), ?_⟩
  have hpar := parse_post t []
  have plen := Cl.post_small td
  refine q_asgL (el_lst ea_nil (Nat.zero_le _)) fun ps H1 hps e1 hs1 => ?_
  refine q_forR1 (n := ((vs.length : Nat) : Int)) (ea_cons (ev_lenQ (ev_var rfl) (.inl (sq_of (e1 _ _ hv)))) ea_nil) (by rw [hp.1]; omega)
    (fun i σ' H' => ∃ (o3 o4 o5 o6 o7 : Option V) (ts : List Cl) (ws : List V) (l : List Addr), σ' = [some (.ref pc), some (.int 1), some (.ref ps), o3, o4, o5, o6, o7] ∧ parse (t.post.take i) [] = some ts ∧ H' ps = some (.lst ws.reverse) ∧ OwS K H' ts ws l ∧ l.Nodup ∧ ps ∉ l ∧ ws.length ≤ i ∧ (∀ b ∈ l, H b = none) ∧ Ex H H')
    (fun H2 e2 => ⟨none, none, none, none, none, [], [], [], rfl, by rw [List.take_zero] <;> rfl, e2 _ _ hs1, rfl, List.nodup_nil, (fun z => nomatch z), Nat.le_refl 0, (fun b z => nomatch z), e1.trans e2⟩) ?_ ?_
  · rintro i σ' H' hi ⟨o3, o4, o5, o6, o7, ts, ws, l, rfl, hts, hst, hall, nd, nps, hln, hfr, e2⟩
    have hil : i < t.post.length := by rw [← hp.1]; omega
    have hvi : vs[i]? = some vs[i] := List.getElem?_eq_getElem (by rw [hp.1]; exact hil)
    obtain ⟨p, hpi, hat⟩ := hp.2 i _ hvi
    obtain ⟨us, hstep, hus⟩ := parse_next hpar hpi hts
    refine q_asg (ev_op (ev_var rfl) (ev_var rfl) (rv_ixL (sq_of (e2 _ _ hv)) (atI_nat hvi))) fun H3 e3 => ?_
    have hat3 := (hat.mo e2).mo e3
    have hst3 := e3 _ _ hst
    have hall3 := ows_mo hall fun b o _ => e3 b o
    refine q_cut (M := fun σ' H4 => ∃ (pm : Addr) (c : Cl) (us2 : List Cl) (ws2 : List V) (lm l2 : List Addr) (o5 o7 : Option V), σ' = [some (.ref pc), some (.int 1), some (.ref ps), some (.int (i : Int)), some vs[i], o5, some (.ref pm), o7] ∧ us = c :: us2 ∧
      Ow K H4 [] c.tr (.ref pm) lm ∧ OwS K H4 us2 ws2 l2 ∧ (lm ++ l2).Nodup ∧ ps ∉ lm ++ l2 ∧ H4 ps = some (.lst ws2.reverse) ∧ ws2.length ≤ i ∧ (∀ b ∈ lm ++ l2, H b = none) ∧ Ex H H4) ?_ ?_
    · obtain ⟨a, r, ea, hh⟩ := hat3.head
      rw [ea]
      cases p with
      | is f g h r0 m0 =>
        obtain ⟨a', b', ea', h1, h2⟩ := hat3
        have eaa : a = a' := by rw [ea] at ea'; exact V.ref.inj ea'
        subst eaa
        refine s_if (b := true) (et_test (ev_is (ev_strEq (ev_op (ev_var rfl) ev_c (rv_ixT h1 (atI_zero _ _))) ev_c) (by rw [decide_eq_true rfl]))) (fun _ H4 e4 => ?_) fun z => nomatch z
        have h14 := ex_t e4 h1
        refine q_asg (ev_op (ev_var rfl) ev_c (rv_ixT h14 rfl)) fun H5 e5 => ?_
        have h15 := ex_t e5 h14
        refine q_when (b := true) (et_is (et_or (a := true) (b := true) (et_test (ev_is (ev_intEq (ev_var rfl) ev_c) (by rw [decide_eq_true rfl]))) fun z => nomatch z) rfl) (fun _ H6 e6 => ?_) fun z => nomatch z
        have src : Ev (tOp (rIxT K) (tVar 4) (tC (.int 1))) [some (.ref pc), some (.int 1), some (.ref ps), some (.int (i : Int)), some (.ref a), some (.ref b'), o6, o7] H6 (.ref b') := ev_op (ev_var rfl) ev_c (rv_ixT (ex_t e6 h15) rfl)
        refine q_asgL (el_listQ src (.inr (ex_t (((e4.trans e5).trans e6)) h2))) fun pf H7 hpf e7 h7 => ?_
        have e37 := ((e4.trans e5).trans e6).trans e7
        have h17 := ex_t (e6.trans e7) h15
        refine s_asgL (el_lst (ea_cons ev_c (ea_cons (ev_var rfl) (ea_cons (ev_op (ev_var rfl) ev_c (rv_ixT h17 rfl)) (ea_cons (ev_op (ev_var rfl) ev_c (rv_ixT h17 rfl)) ea_nil)))) (by show 4 ≤ 100000; decide)) fun pm H8 hpm e8 h8 => ?_
        have hst8 := (e37.trans e8) _ _ hst3
        have hall8 := ows_mo hall3 fun b o _ => (e37.trans e8) b o
        have fr : ∀ {b : Addr}, H3 b = none → b ∉ l := fun hb hm => by
          obtain ⟨xs, hx⟩ := ows_cell hall3 hm
          rw [hb] at hx
          cases hx
        have nf : H3 pf = none := fresh_back (((e4.trans e5).trans e6)) hpf
        have nm : H3 pm = none := fresh_back e37 hpm
        have npf : pm ≠ pf := Ne.symm (ne_of_none h7 hpm)
        have npp : ∀ {b : Addr}, H3 b = none → ps ≠ b := fun hb => ne_of_none hst3 hb
        cases hstep
        refine ⟨pm, .is f g h r0 m0, ts, ws, [pm, pf], l, _, _, rfl, rfl, ⟨pm, pf, rfl, rfl, h8, e8 _ _ h7⟩, hall8, ?_, ?_, hst8, hln, ?_, (e2.trans e3).trans (e37.trans e8)⟩
        · refine List.nodup_cons.mpr ⟨fun z => ?_, List.nodup_cons.mpr ⟨fr nf, nd⟩⟩
          rcases List.mem_cons.mp z with z | z
          · exact npf z
          · exact fr nm z
        · intro z
          rcases List.mem_cons.mp z with z | z
          · exact npp nm z
          rcases List.mem_cons.mp z with z | z
          · exact npp nf z
          · exact nps z
        · intro b hb
          rcases List.mem_cons.mp hb with rfl | hb
          · exact fresh_back (e2.trans e3) nm
          rcases List.mem_cons.mp hb with rfl | hb
          · exact fresh_back (e2.trans e3) nf
          · exact hfr b hb
      | not =>
        obtain ⟨c, ts', rfl, rfl⟩ := step_not hstep
        match ws, hall3, hall, hst3, hln with
        | x :: ws', ⟨l1, l2, hl, hx, hws⟩, hall, hst3, hln =>
        rw [List.reverse_cons] at hst3
        refine s_if (b := false) (et_test (ev_is (ev_strEq (ev_op (ev_var rfl) ev_c (rv_ixT hh (atI_zero _ _))) ev_c) (by decide +kernel))) (fun z => nomatch z) fun _ H4 e4 => ?_
        refine s_if (b := true) (et_test (ev_is (ev_strEq (ev_op (ev_var rfl) ev_c (rv_ixT (ex_t e4 hh) (atI_zero _ _))) ev_c) (by decide +kernel))) (fun _ H5 e5 => ?_) fun z => nomatch z
        have hst5 := e5 _ _ (e4 _ _ hst3)
        refine s_lstPop (i := 2) rfl hst5 fun pm hpm => ?_
        have nm : pm ≠ ps := fun z => by rw [z, upd_same] at hpm; cases hpm
        rw [upd_ne nm] at hpm
        have fr : pm ∉ l := fun hm => by
          obtain ⟨xs, hy⟩ := ows_cell hall hm
          rw [e5 _ _ (e4 _ _ (e3 _ _ hy))] at hpm
          cases hpm
        have kk : ∀ b o, b ∈ l → H3 b = some o → (upd (upd H5 ps (.lst ws'.reverse)) pm (.lst [V.str "not", x])) b = some o := fun b o hb ho => by
          rw [upd_ne (fun z => fr (by rw [← z]; exact hb)), upd_ne (fun z => nps (by rw [← z]; exact hb))]
          exact e5 _ _ (e4 _ _ ho)
        refine ⟨pm, .not c, ts', ws', pm :: l1, l2, _, _, rfl, rfl, ⟨pm, x, l1, rfl, rfl, upd_same, ow_pure hx fun b o hb => kk b o (by rw [hl]; exact List.mem_append_left _ hb)⟩, ows_mo hws fun b o hb => kk b o (by rw [hl]; exact List.mem_append_right _ hb), ?_, ?_, by rw [upd_ne (Ne.symm nm)]; exact upd_same, by rw [List.length_cons] at hln; omega, ?_, (Ex.mut (((e2.trans e3).trans e4).trans e5) hps).trans (Ex.new (by rw [upd_ne nm]; exact hpm))⟩
        · rw [List.cons_append, ← hl]
          exact List.nodup_cons.mpr ⟨fr, nd⟩
        · rw [List.cons_append, ← hl]
          intro z
          rcases List.mem_cons.mp z with z | z
          · exact nm z.symm
          · exact nps z
        · rw [List.cons_append, ← hl]
          intro b hb
          rcases List.mem_cons.mp hb with rfl | hb
          · exact fresh_back (((e2.trans e3).trans e4).trans e5) hpm
          · exact hfr b hb
      | and =>
        obtain ⟨c2, c1, ts', rfl, rfl⟩ := step_and hstep
        match ws, hall3, hall, hst3, hln with
        | x2 :: x1 :: ws', ⟨la, lr, hl, hx2, lb, l2, hl2, hx1, hws⟩, hall, hst3, hln =>
        subst hl2
        rw [List.reverse_cons, List.reverse_cons] at hst3
        refine s_if (b := false) (et_test (ev_is (ev_strEq (ev_op (ev_var rfl) ev_c (rv_ixT hh (atI_zero _ _))) ev_c) (by decide +kernel))) (fun z => nomatch z) fun _ H4 e4 => ?_
        refine s_if (b := false) (et_test (ev_is (ev_strEq (ev_op (ev_var rfl) ev_c (rv_ixT (ex_t e4 hh) (atI_zero _ _))) ev_c) (by decide +kernel))) (fun z => nomatch z) fun _ H5 e5 => ?_
        have hst5 := e5 _ _ (e4 _ _ hst3)
        refine q_pop (i := 2) rfl hst5 ?_
        have hh5 := sqT_upd (o := .lst (ws'.reverse ++ [x1])) (ex_t (e4.trans e5) hh) hst5
        refine s_lstPop3 (i := 2) (n := 7) (xs := ws'.reverse) (ev_op (ev_var rfl) ev_c (rv_ixT hh5 (atI_zero _ _))) rfl rfl upd_same fun H6 pm e6 hpm => ?_
        have nm : pm ≠ ps := fun z => by rw [z, upd_same] at hpm; cases hpm
        rw [upd_ne nm] at hpm
        have k5 : ∀ b o, b ∈ l → H3 b = some o → H6 b = some o := fun b o hb ho => e6 _ _ (by
          rw [upd_ne (fun z => nps (by rw [← z]; exact hb))]
          exact e5 _ _ (e4 _ _ ho))
        have fr : pm ∉ l := fun hm => by
          obtain ⟨xs, hy⟩ := ows_cell hall hm
          rw [k5 _ _ hm (e3 _ _ hy)] at hpm
          cases hpm
        have kk : ∀ b o, b ∈ l → H3 b = some o → (upd (upd H6 ps (.lst ws'.reverse)) pm (.lst [V.str (binW false), x1, x2])) b = some o := fun b o hb ho => by
          rw [upd_ne (fun z => fr (by rw [← z]; exact hb)), upd_ne (fun z => nps (by rw [← z]; exact hb))]
          exact k5 _ _ hb ho
        subst hl
        obtain ⟨na, nb, nab⟩ := nd_app nd
        obtain ⟨nb1, nb2, nb12⟩ := nd_app nb
        refine ⟨pm, .and c1 c2, ts', ws', pm :: (lb ++ la), l2, _, _, rfl, rfl, ⟨pm, x1, x2, lb, la, rfl, rfl, upd_same, ow_pure hx1 fun b o hb => kk b o (List.mem_append_right _ (List.mem_append_left _ hb)), ow_pure hx2 fun b o hb => kk b o (List.mem_append_left _ hb)⟩,
          ows_mo hws fun b o hb => kk b o (List.mem_append_right _ (List.mem_append_right _ hb)), ?_, ?_, by rw [upd_ne (Ne.symm nm)]; exact upd_same, by rw [List.length_cons, List.length_cons] at hln; omega, ?_,
          (Ex.mut ((Ex.mut (((e2.trans e3).trans e4).trans e5) hps).trans e6) hps).trans (Ex.new (by rw [upd_ne nm]; exact hpm))⟩
        · rw [List.cons_append]
          refine List.nodup_cons.mpr ⟨fun z => fr ?_, nd_mk (nd_mk nb1 na fun b hb hm => nab b hm (List.mem_append_left _ hb)) nb2 fun b hb hm => ?_⟩
          · rcases List.mem_append.mp z with z | z
            · rcases List.mem_append.mp z with z | z
              · exact List.mem_append_right _ (List.mem_append_left _ z)
              · exact List.mem_append_left _ z
            · exact List.mem_append_right _ (List.mem_append_right _ z)
          · rcases List.mem_append.mp hb with hb | hb
            · exact nb12 b hb hm
            · exact nab b hb (List.mem_append_right _ hm)
        · rw [List.cons_append]
          intro z
          rcases List.mem_cons.mp z with z | z
          · exact nm z.symm
          · refine nps ?_
            rcases List.mem_append.mp z with z | z
            · rcases List.mem_append.mp z with z | z
              · exact List.mem_append_right _ (List.mem_append_left _ z)
              · exact List.mem_append_left _ z
            · exact List.mem_append_right _ (List.mem_append_right _ z)
        · rw [List.cons_append]
          intro b hb
          rcases List.mem_cons.mp hb with rfl | z
          · exact fresh_back ((Ex.mut (((e2.trans e3).trans e4).trans e5) hps).trans e6) hpm
          · refine hfr b ?_
            rcases List.mem_append.mp z with z | z
            · rcases List.mem_append.mp z with z | z
              · exact List.mem_append_right _ (List.mem_append_left _ z)
              · exact List.mem_append_left _ z
            · exact List.mem_append_right _ (List.mem_append_right _ z)
      | or =>
        obtain ⟨c2, c1, ts', rfl, rfl⟩ := step_or hstep
        match ws, hall3, hall, hst3, hln with
        | x2 :: x1 :: ws', ⟨la, lr, hl, hx2, lb, l2, hl2, hx1, hws⟩, hall, hst3, hln =>
        subst hl2
        rw [List.reverse_cons, List.reverse_cons] at hst3
        refine s_if (b := false) (et_test (ev_is (ev_strEq (ev_op (ev_var rfl) ev_c (rv_ixT hh (atI_zero _ _))) ev_c) (by decide +kernel))) (fun z => nomatch z) fun _ H4 e4 => ?_
        refine s_if (b := false) (et_test (ev_is (ev_strEq (ev_op (ev_var rfl) ev_c (rv_ixT (ex_t e4 hh) (atI_zero _ _))) ev_c) (by decide +kernel))) (fun z => nomatch z) fun _ H5 e5 => ?_
        have hst5 := e5 _ _ (e4 _ _ hst3)
        refine q_pop (i := 2) rfl hst5 ?_
        have hh5 := sqT_upd (o := .lst (ws'.reverse ++ [x1])) (ex_t (e4.trans e5) hh) hst5
        refine s_lstPop3 (i := 2) (n := 7) (xs := ws'.reverse) (ev_op (ev_var rfl) ev_c (rv_ixT hh5 (atI_zero _ _))) rfl rfl upd_same fun H6 pm e6 hpm => ?_
        have nm : pm ≠ ps := fun z => by rw [z, upd_same] at hpm; cases hpm
        rw [upd_ne nm] at hpm
        have k5 : ∀ b o, b ∈ l → H3 b = some o → H6 b = some o := fun b o hb ho => e6 _ _ (by
          rw [upd_ne (fun z => nps (by rw [← z]; exact hb))]
          exact e5 _ _ (e4 _ _ ho))
        have fr : pm ∉ l := fun hm => by
          obtain ⟨xs, hy⟩ := ows_cell hall hm
          rw [k5 _ _ hm (e3 _ _ hy)] at hpm
          cases hpm
        have kk : ∀ b o, b ∈ l → H3 b = some o → (upd (upd H6 ps (.lst ws'.reverse)) pm (.lst [V.str (binW true), x1, x2])) b = some o := fun b o hb ho => by
          rw [upd_ne (fun z => fr (by rw [← z]; exact hb)), upd_ne (fun z => nps (by rw [← z]; exact hb))]
          exact k5 _ _ hb ho
        subst hl
        obtain ⟨na, nb, nab⟩ := nd_app nd
        obtain ⟨nb1, nb2, nb12⟩ := nd_app nb
        refine ⟨pm, .or c1 c2, ts', ws', pm :: (lb ++ la), l2, _, _, rfl, rfl, ⟨pm, x1, x2, lb, la, rfl, rfl, upd_same, ow_pure hx1 fun b o hb => kk b o (List.mem_append_right _ (List.mem_append_left _ hb)), ow_pure hx2 fun b o hb => kk b o (List.mem_append_left _ hb)⟩,
          ows_mo hws fun b o hb => kk b o (List.mem_append_right _ (List.mem_append_right _ hb)), ?_, ?_, by rw [upd_ne (Ne.symm nm)]; exact upd_same, by rw [List.length_cons, List.length_cons] at hln; omega, ?_,
          (Ex.mut ((Ex.mut (((e2.trans e3).trans e4).trans e5) hps).trans e6) hps).trans (Ex.new (by rw [upd_ne nm]; exact hpm))⟩
        · rw [List.cons_append]
          refine List.nodup_cons.mpr ⟨fun z => fr ?_, nd_mk (nd_mk nb1 na fun b hb hm => nab b hm (List.mem_append_left _ hb)) nb2 fun b hb hm => ?_⟩
          · rcases List.mem_append.mp z with z | z
            · rcases List.mem_append.mp z with z | z
              · exact List.mem_append_right _ (List.mem_append_left _ z)
              · exact List.mem_append_left _ z
            · exact List.mem_append_right _ (List.mem_append_right _ z)
          · rcases List.mem_append.mp hb with hb | hb
            · exact nb12 b hb hm
            · exact nab b hb (List.mem_append_right _ hm)
        · rw [List.cons_append]
          intro z
          rcases List.mem_cons.mp z with z | z
          · exact nm z.symm
          · refine nps ?_
            rcases List.mem_append.mp z with z | z
            · rcases List.mem_append.mp z with z | z
              · exact List.mem_append_right _ (List.mem_append_left _ z)
              · exact List.mem_append_left _ z
            · exact List.mem_append_right _ (List.mem_append_right _ z)
        · rw [List.cons_append]
          intro b hb
          rcases List.mem_cons.mp hb with rfl | z
          · exact fresh_back ((Ex.mut (((e2.trans e3).trans e4).trans e5) hps).trans e6) hpm
          · refine hfr b ?_
            rcases List.mem_append.mp z with z | z
            · rcases List.mem_append.mp z with z | z
              · exact List.mem_append_right _ (List.mem_append_left _ z)
              · exact List.mem_append_left _ z
            · exact List.mem_append_right _ (List.mem_append_right _ z)
    · rintro σ4 H4 ⟨pm, c, us2, ws2, lm, l2, o5, o7, rfl, hsd, how, hws, nd4, nps4, hst4, hln2, hfr4, e4⟩
      refine q_when (b := false) (et_is (et_or (a := false) (b := false) (et_test (ev_is (ev_intEq (ev_var rfl) ev_c) (by decide))) fun _ => et_is (et_and (a := false) (b := false) (et_test (ev_is (ev_intEq (ev_var rfl) ev_c) (by decide))) fun z => nomatch z) rfl) rfl) (fun z => nomatch z) fun _ H5 e5 => ?_
      refine s_app (e5 _ _ hst4) (ev_var rfl) (ev_var rfl) (by rw [List.length_reverse]; omega) fun H6 e6 => ?_
      have kk : ∀ b o, b ∈ lm ++ l2 → H4 b = some o → (upd H6 ps (.lst (ws2.reverse ++ [V.ref pm]))) b = some o := fun b o hb ho => by
        rw [upd_ne (fun z => nps4 (by rw [← z]; exact hb))]
        exact e6 _ _ (e5 _ _ ho)
      subst hsd
      refine ⟨_, _, _, _, _, c :: us2, V.ref pm :: ws2, lm ++ l2, rfl, hus, ?_, ⟨lm, l2, rfl, ow_pure how fun b o hb => kk b o (List.mem_append_left _ hb), ows_mo hws fun b o hb => kk b o (List.mem_append_right _ hb)⟩, nd4, nps4, by rw [List.length_cons]; omega, hfr4, Ex.mut ((e4.trans e5).trans e6) hps⟩
      rw [List.reverse_cons]
      exact upd_same
  · rintro σ' H' ⟨o3, o4, o5, o6, o7, ts, ws, l, rfl, hts, hst, hall, nd, nps, hln, hfr, e2⟩
    rw [Int.toNat_natCast, hp.1, List.take_length, hpar] at hts
    cases hts
    match ws, hall with
    | [v], ⟨l1, l2, hl, hx, h2⟩ =>
      have h2' : l2 = [] := h2
      subst h2'
      rw [List.append_nil] at hl
      subst hl
      exact s_ret (ev_op (ev_var rfl) ev_c (rv_ixL (sq_of hst) rfl)) fun H3 e3 => q v _ (e2.trans e3) ⟨l, ow_pure hx fun b o _ => e3 b o, nd, hfr⟩
end
end Kf

set_option Elab.async false
set_option linter.all false
set_option maxRecDepth 100000
set_option maxHeartbeats 4000000
namespace Kf
open PySem L2 Evl
/-! ### two lists side by side -/
def Both {α : Type} (R : V → α → Prop) : List V → List α → Prop
  | [], [] => True
  | v :: vs, x :: xs => R v x ∧ Both R vs xs
  | _, _ => False
section
variable {α : Type} {R R' : V → α → Prop}
theorem both_len : ∀ {vs : List V} {xs : List α}, Both R vs xs → vs.length = xs.length
  | [], [], _ => rfl
  | _ :: _, _ :: _, h => congrArg (· + 1) (both_len h.2)
  | [], _ :: _, h => h.elim
  | _ :: _, [], h => h.elim
theorem both_imp (k : ∀ v x, R v x → R' v x) : ∀ {vs : List V} {xs : List α}, Both R vs xs → Both R' vs xs
  | [], [], _ => trivial
  | _ :: _, _ :: _, h => ⟨k _ _ h.1, both_imp k h.2⟩
  | [], _ :: _, h => h.elim
  | _ :: _, [], h => h.elim
theorem both_snoc {v : V} {x : α} (k : R v x) : ∀ {vs : List V} {xs : List α}, Both R vs xs → Both R (vs ++ [v]) (xs ++ [x])
  | [], [], _ => ⟨k, trivial⟩
  | _ :: _, _ :: _, h => ⟨h.1, both_snoc k h.2⟩
  | [], _ :: _, h => h.elim
  | _ :: _, [], h => h.elim
theorem both_get : ∀ {vs : List V} {xs : List α} {i : Nat} {x : α}, Both R vs xs → xs[i]? = some x → ∃ v, vs[i]? = some v ∧ R v x
  | [], [], i, x, _, e => by simp at e
  | v :: vs, y :: ys, 0, x, h, e => by
    cases (Option.some.inj e)
    exact ⟨v, rfl, h.1⟩
  | v :: vs, y :: ys, i + 1, x, h, e => both_get (i := i) h.2 e
  | [], _ :: _, _, _, h, _ => h.elim
  | _ :: _, [], _, _, h, _ => h.elim
end
/-- what waits: claims and where they stand -/
def expand : List (Cl × List Int) → List (List Int)
  | [] => []
  | (c, p) :: r => c.tr.paths.map (p ++ ·) ++ expand r
def kitems : List Cl → List Int → Nat → List (Cl × List Int)
  | [], _, _ => []
  | k :: ks, p, j => (k, p ++ [(j : Int)]) :: kitems ks p (j + 1)
theorem expand_app : ∀ a b : List (Cl × List Int), expand (a ++ b) = expand a ++ expand b
  | [], b => rfl
  | (c, p) :: a, b => by
    show c.tr.paths.map (p ++ ·) ++ expand (a ++ b) = c.tr.paths.map (p ++ ·) ++ expand a ++ expand b
    rw [expand_app a b, List.append_assoc]
theorem map_path (p : List Int) (i : Int) : ∀ qs : List (List Int), (qs.map (i :: ·)).map (p ++ ·) = qs.map ((p ++ [i]) ++ ·)
  | [] => rfl
  | q :: qs => by
    show (p ++ i :: q) :: (qs.map (i :: ·)).map (p ++ ·) = (p ++ [i] ++ q) :: qs.map ((p ++ [i]) ++ ·)
    rw [map_path p i qs, List.append_assoc] <;> rfl
theorem expand_len : ∀ a : List (Cl × List Int), a.length ≤ (expand a).length
  | [] => Nat.zero_le _
  | (c, p) :: a => by
    have k := expand_len a
    have := c.tr.size_pos
    show a.length + 1 ≤ (c.tr.paths.map (p ++ ·) ++ expand a).length
    rw [List.length_append, List.length_map, c.tr.paths_len]
    omega
theorem kitems_drop {ks : List Cl} {p : List Int} {j : Nat} {k : Cl} (h : ks[j]? = some k) : kitems (ks.drop j) p (j + 1) = (k, p ++ [((j + 1 : Nat) : Int)]) :: kitems (ks.drop (j + 1)) p (j + 1 + 1) := by
  obtain ⟨hi, e⟩ := List.getElem?_eq_some_iff.mp h
  rw [List.drop_eq_getElem_cons hi, e] <;> rfl
theorem expand_kids (p : List Int) (c : Cl) : c.tr.paths.map (p ++ ·) = p :: expand (kitems c.kids p 1) := by
  cases c with
  | is f g h r m => show [p ++ []] = [p]; rw [List.append_nil]
  | not c =>
    show (p ++ []) :: (c.tr.paths.map (1 :: ·)).map (p ++ ·) = p :: (c.tr.paths.map ((p ++ [((1 : Nat) : Int)]) ++ ·) ++ [])
    rw [List.append_nil, List.append_nil, map_path] <;> rfl
  | and a b =>
    show (p ++ []) :: (a.tr.paths.map (1 :: ·) ++ b.tr.paths.map (2 :: ·)).map (p ++ ·) = p :: (a.tr.paths.map ((p ++ [((1 : Nat) : Int)]) ++ ·) ++ (b.tr.paths.map ((p ++ [((1 + 1 : Nat) : Int)]) ++ ·) ++ []))
    rw [List.append_nil, List.append_nil, List.map_append, map_path, map_path] <;> rfl
  | or a b =>
    show (p ++ []) :: (a.tr.paths.map (1 :: ·) ++ b.tr.paths.map (2 :: ·)).map (p ++ ·) = p :: (a.tr.paths.map ((p ++ [((1 : Nat) : Int)]) ++ ·) ++ (b.tr.paths.map ((p ++ [((1 + 1 : Nat) : Int)]) ++ ·) ++ []))
    rw [List.append_nil, List.append_nil, List.map_append, map_path, map_path] <;> rfl
theorem tr_kids {c : Cl} (h : c.kids ≠ []) : c.tr.data = .lst (.str c.word :: c.kids.map (·.tr.data)) := by
  cases c with
  | is => exact absurd rfl h
  | _ => rfl
theorem kid_depth {c k : Cl} (h : k ∈ c.kids) : k.depth + 1 ≤ c.depth := by
  cases c with
  | is => exact nomatch h
  | not c => rw [List.mem_singleton.mp h]; exact Nat.le_refl _
  | and a b =>
    show k.depth + 1 ≤ max a.depth b.depth + 1
    rcases List.mem_cons.mp h with rfl | h
    · omega
    · rw [List.mem_singleton.mp h]; omega
  | or a b =>
    show k.depth + 1 ≤ max a.depth b.depth + 1
    rcases List.mem_cons.mp h with rfl | h
    · omega
    · rw [List.mem_singleton.mp h]; omega
theorem kids_two (c : Cl) : c.kids.length ≤ 2 := by cases c <;> first | exact Nat.zero_le 2 | exact Nat.le_succ 1 | exact Nat.le_refl 2
section
variable {K : PySem.W.Frag} {σ : L2.St} {H0 H H' : Hp} {ta tb te : TE} {tr : TA} {D : Ends} {tz : TS}
def PathAt (K : PySem.W.Frag) (H : Hp) (v : V) (q : List Int) : Prop := ∃ a, v = .ref a ∧ SqT K H a (q.map V.int)
def WaitAt (K : PySem.W.Frag) (H0 H : Hp) (v : V) (x : Cl × List Int) : Prop := ∃ a y b, v = .ref a ∧ SqT K H a [y, .ref b] ∧ Rp K H0 y x.1.tr.data ∧ SqT K H b (x.2.map V.int) ∧ x.2.length + x.1.depth ≤ 12
theorem PathAt.ex {v : V} {q : List Int} (h : PathAt K H v q) (e : Ex H H') : PathAt K H' v q := by
  obtain ⟨a, h1, h2⟩ := h
  exact ⟨a, h1, ex_t e h2⟩
theorem PathAt.upd {v : V} {q : List Int} {c : Addr} {ys : List V} {o : HO} (h : PathAt K H v q) (hc : H c = some (.lst ys)) : PathAt K (L2.upd H c o) v q := by
  obtain ⟨a, h1, h2⟩ := h
  exact ⟨a, h1, sqT_upd h2 hc⟩
theorem WaitAt.ex {v : V} {x : Cl × List Int} (h : WaitAt K H0 H v x) (e : Ex H H') : WaitAt K H0 H' v x := by
  obtain ⟨a, y, b, h1, h2, h3, h4, h5⟩ := h
  exact ⟨a, y, b, h1, ex_t e h2, h3, ex_t e h4, h5⟩
theorem WaitAt.upd {v : V} {x : Cl × List Int} {c : Addr} {ys : List V} {o : HO} (h : WaitAt K H0 H v x) (hc : H c = some (.lst ys)) : WaitAt K H0 (L2.upd H c o) v x := by
  obtain ⟨a, y, b, h1, h2, h3, h4, h5⟩ := h
  exact ⟨a, y, b, h1, sqT_upd h2 hc, h3, sqT_upd h4 hc, h5⟩
/-- x, y = s.pop() -/
theorem q_pop2 {i j k : Nat} {l a : Addr} {xs : List V} {y z : V} (hs : σ[i]? = some (some (.ref l))) (hl : H l = some (.lst (xs ++ [.ref a]))) (ha : SqT K H a [y, z]) (q : tz D ((σ.set j (some y)).set k (some z)) (L2.upd H l (.lst xs))) :
    tSeq (tAsg (tBM0 K "list" rPop (tVar i)) (gTup K 2 (gCons (gName j) (gCons (gName k) gNil)))) tz D σ H :=
  ⟨_, hs, Or.inl ⟨rfl, _, sq_of hl⟩, l, _, _, rfl, rfl, hl, last_snoc xs _, by
    rw [List.dropLast_concat]
    exact ⟨a, [y, z], rfl, sqT_upd ha hl, rfl, y, [z], rfl, z, [], rfl, rfl, q⟩⟩
end
def spPaths (K : PySem.W.Frag) : Sp := fun vs H Q _ => ∃ (v : V) (c : Cl), vs = [v] ∧ Rp K H v c.tr.data ∧ c.depth ≤ 12 ∧ c.tr.size ≤ 499 ∧ ∀ p ws H', Ex H H' → H' p = some (.lst ws) → Both (PathAt K H') ws c.tr.paths → Q (.ref p) H'
section
variable {P : Program} {w : World} {K : PySem.W.Frag} {mg : Str → Option Value} {base : Heap} {H : Hp}
abbrev sLawPaths : Stmt := top 38
theorem scLawPaths : FnScope ["tree", "paths", "waiting", "k", "part", "path", "index"] ["tree"] (defScope sLawPaths) := ⟨rfl, rfl, rfl, by decide +kernel, rfl, by decide +kernel, by decide +kernel⟩
theorem df_paths (B : Bi mg) (S : At K mg "_law_paths" sLawPaths ["tree"]) : Df P w K mg base CX0 "_law_paths" 1 ["tree"] (spPaths K) := by
  obtain ⟨f, fd, F, m, b⟩ := S
  refine ⟨f, fd, m, F.kp, b, F.ok scLawPaths (fun vs H Q E h => ?_) (fun cdv A outer s H vs Q E hr h => ?_)⟩
  · obtain ⟨v, c, rfl, _⟩ := h
    rfl
  obtain ⟨v, c, rfl, hv, hc12, hsz, q⟩ := h
  refine ⟨_, (pss_cons (ps_set (i := 1) scLawPaths.nd rfl (Or.inl rfl) (pe_lst pa_nil))
  (pss_cons (ps_set (i := 2) scLawPaths.nd rfl (Or.inl rfl) (pe_lst (pa_cons (pe_tup (pa_cons (pv 0) (pa_cons (pe_tup pa_nil) pa_nil))) pa_nil)))
  (pss_cons (ps_for PassesOwn.never rfl (pi_range1 rfl B.range (pa_cons pe_int pa_nil)) (pg_name (i := 3) scLawPaths.nd rfl (Or.inl rfl)) (pss_cons (ps_if (pt_cmpR op_eq (pe_callB call_len_seq rfl B.len PySem.boot_len (pa_cons (pv 2) pa_nil)) pe_int (nomark _)) (pss_one ps_break) pss_nil)
  (pss_cons (ps_asg (pe_bm0 PySem.F.plainAttrs_list PySem.F.slot_list_pop PySem.F.type_list_pop mt_pop (pv 2)) (pg_tup rfl (pgs_cons (pg_name (i := 4) scLawPaths.nd rfl (Or.inl rfl)) (pgs_cons (pg_name (i := 5) scLawPaths.nd rfl (Or.inl rfl)) pgs_nil))))
  (pss_cons (ps_expr (pe_bm PySem.F.plainAttrs_list PySem.F.slot_list_append PySem.F.type_list_append mt_append (pv 1) (pa_cons (pv 5) pa_nil)))
  (pss_one (ps_if (pt_cmpR op_ne (pe_ix ix_lt (pv 4) pe_int (fun _ _ => rfl)) pe_str (nomark _)) (pss_one (ps_for PassesOwn.never rfl (pi_range2 rfl B.range (pa_cons pe_int (pa_cons (pe_callB call_len_seq rfl B.len PySem.boot_len (pa_cons (pv 4) pa_nil)) pa_nil))) (pg_name (i := 6) scLawPaths.nd rfl (Or.inl rfl)) (pss_one (ps_expr (pe_bm PySem.F.plainAttrs_list PySem.F.slot_list_append PySem.F.type_list_append mt_append (pv 2) (pa_cons (pe_tup (pa_cons (pe_ix ix_lt (pv 4) (pe_op op_sub (pe_callB call_len_seq rfl B.len PySem.boot_len (pa_cons (pv 4) pa_nil)) (pv 6)) (fun _ _ => rfl)) (pa_cons (pe_op op_catA (pv 5) (pe_tup (pa_cons (pe_op op_sub (pe_callB call_len_seq rfl B.len PySem.boot_len (pa_cons (pv 4) pa_nil)) (pv 6)) pa_nil))) pa_nil))) pa_nil)))))) pss_nil))))))
  (pss_one (ps_ret (pv 1)))))), ?_⟩
  refine q_asgL (el_lst ea_nil (Nat.zero_le _)) fun pp H1 hpp e1 hp1 => ?_
  refine q_asgLP (R := fun ws H2 => ∃ w0, ws = [w0] ∧ WaitAt K H H2 w0 (c, [])) ?_ (fun vs H2 hv => by obtain ⟨w0, rfl, _⟩ := hv; show 1 ≤ 100000; decide) fun pw ws H2 e2 hw hpw => ?_
  · refine eap_cons (P := fun v H2 => WaitAt K H H2 v (c, [])) (EvP.imp (evp_tupP (R := fun vs H2 => ∃ b, vs = [v, .ref b] ∧ SqT K H2 b []) ?_ fun vs H2 hv => ?_) fun v2 H2 e2 hv2 => ?_) fun v2 H2 e2 hv2 => fun H3 e3 Q' q' => q' [] H3 (Ex.refl H3) ⟨v2, rfl, hv2.ex e3⟩
    · refine eap_cons (P := fun v2 _ => v2 = v) (evp_var rfl fun _ _ => rfl) fun v2 H2 e2 hv2 => ?_
      subst hv2
      refine eap_cons (P := IsU []) (evp_U (eu_tup ea_nil (Nat.zero_le _)) fun p H2 _ h2 => ⟨p, rfl, h2⟩) fun v3 H3 e3 hv3 => ?_
      obtain ⟨b, rfl, hb⟩ := hv3
      exact fun H4 e4 Q' q' => q' [] H4 (Ex.refl H4) ⟨b, rfl, st_of (e4 _ _ hb)⟩
    · obtain ⟨b, rfl, _⟩ := hv
      show 2 ≤ 100000
      decide
    · obtain ⟨p, vs, H5, rfl, hp, e5, b, rfl, hb⟩ := hv2
      exact ⟨p, v, b, rfl, st_of hp, hv, ex_t e5 hb, by show 0 + c.depth ≤ 12; omega⟩
  obtain ⟨w0, rfl, hw0⟩ := hw
  have hnw : H pw = none := fresh_back e1 (fresh_back e2 hpw)
  have hpp2 := e2 _ _ hp1
  have npw : pp ≠ pw := ne_of_none hpp2 hpw
  have hlen := c.tr.paths_len
  refine q_forR1 (n := 500) (ea_cons ev_c ea_nil) ⟨by decide, by decide⟩
    (fun k σ' H' => ∃ (o3 o4 o5 o6 : Option V) (ds vs : List V) (qs : List (List Int)) (its : List (Cl × List Int)), σ' = [some v, some (.ref pp), some (.ref pw), o3, o4, o5, o6] ∧ H' pp = some (.lst ds) ∧ H' pw = some (.lst vs.reverse) ∧ Both (PathAt K H') ds qs ∧ Both (WaitAt K H H') vs its ∧ c.tr.paths = qs ++ expand its ∧ qs.length = k ∧ Ex H H')
    (fun H3 e3 => ⟨none, none, none, none, [], [w0], [], [(c, [])], rfl, e3 _ _ (by rw [upd_ne npw]; exact hpp2), e3 _ _ upd_same, trivial, ⟨hw0.ex ((Ex.new hpw).trans e3), trivial⟩, by
      show c.tr.paths = [] ++ (c.tr.paths.map ([] ++ ·) ++ [])
      rw [List.nil_append, List.append_nil]
      exact (List.map_id _).symm, rfl, ((e1.trans e2).trans (Ex.new hpw)).trans e3⟩) ?_ ?_
  · rintro k σ' H' hk ⟨o3, o4, o5, o6, ds, vs, qs, its, rfl, hds, hvs, bq, bw, htot, hql, e3⟩
    have lqs := both_len bq
    have tql : qs.length + (expand its).length = c.tr.size := by rw [← hlen, htot, List.length_append]
    refine q_when (et_test (ev_intEq (ev_lenQ (ev_var rfl) (.inl (sq_of hvs))) ev_c)) (fun hb H4 e4 => ?_) fun hb H4 e4 => ?_
    · have h0 := of_decide_eq_true hb
      rw [List.length_reverse] at h0
      have hv0 : vs = [] := List.eq_nil_of_length_eq_zero (by omega)
      subst hv0
      match its, bw with
      | [], _ =>
        have e : c.tr.paths = qs := by rw [htot]; exact List.append_nil _
        refine s_ret (D := { nx := fun _ H' => Q .non H', rt := Q }) (ev_var rfl) fun H5 e5 => q pp ds _ ((e3.trans e4).trans e5) ((e4.trans e5) _ _ hds) ?_
        rw [e]
        exact both_imp (fun v x h => h.ex (e4.trans e5)) bq
    · match vs, its, bw with
      | [], _, _ => exact absurd (of_decide_eq_false hb) (fun z => z rfl)
      | v1 :: vs1, (c1, p1) :: its1, bw =>
      obtain ⟨⟨a1, y1, b1, rfl, h1, h2, h3, h4⟩, bw1⟩ := bw
      have hvs4 := e4 _ _ hvs
      rw [List.reverse_cons] at hvs4
      have hds4 := e4 _ _ hds
      refine q_pop2 (i := 2) rfl hvs4 (ex_t e4 h1) ?_
      have hdsU : (upd H4 pw (.lst vs1.reverse)) pp = some (.lst ds) := by rw [upd_ne npw]; exact hds4
      refine q_app hdsU (ev_var rfl) (ev_var rfl) (by have := hsz; omega) fun H5 e5 => ?_
      have e35 : Ex H H5 := (Ex.mut (e3.trans e4) hnw).trans e5
      have hvs5 : H5 pw = some (.lst vs1.reverse) := e5 _ _ upd_same
      have hds5 := e5 _ _ hdsU
      have sqb : SqT K (upd H5 pp (.lst (ds ++ [V.ref b1]))) b1 (p1.map V.int) := sqT_upd (ex_t e5 (sqT_upd (ex_t e4 h3) hvs4)) hds5
      have bq6 : Both (PathAt K (upd H5 pp (.lst (ds ++ [V.ref b1])))) (ds ++ [V.ref b1]) (qs ++ [p1]) := both_snoc ⟨b1, rfl, sqb⟩ (both_imp (fun v x h => ((((h.ex e4).upd hvs4).ex e5).upd hds5)) bq)
      have bw6 : Both (WaitAt K H (upd H5 pp (.lst (ds ++ [V.ref b1])))) vs1 its1 := both_imp (fun v x h => ((((h.ex e4).upd hvs4).ex e5).upd hds5)) bw1
      have e36 : Ex H (upd H5 pp (.lst (ds ++ [V.ref b1]))) := Ex.mut e35 hpp
      have hds6 : (upd H5 pp (.lst (ds ++ [V.ref b1]))) pp = some (.lst (ds ++ [V.ref b1])) := upd_same
      have hvs6 : (upd H5 pp (.lst (ds ++ [V.ref b1]))) pw = some (.lst vs1.reverse) := by rw [upd_ne (Ne.symm npw)]; exact hvs5
      generalize upd H5 pp (.lst (ds ++ [V.ref b1])) = H6 at sqb bq6 bw6 e36 hds6 hvs6 ⊢
      have htot2 : c.tr.paths = (qs ++ [p1]) ++ (expand (kitems c1.kids p1 1) ++ expand its1) := by
        rw [htot]
        show qs ++ (c1.tr.paths.map (p1 ++ ·) ++ expand its1) = _
        rw [expand_kids, List.append_assoc] <;> rfl
      have lq2 : (qs ++ [p1]).length = k + 1 := by rw [List.length_append, hql] <;> rfl
      have bnd : vs1.length ≤ 499 := by
        have k1 := expand_len its1
        have k2 := both_len bw1
        have k3 : (expand ((c1, p1) :: its1)).length = (c1.tr.paths.map (p1 ++ ·)).length + (expand its1).length := List.length_append
        omega
      have hy6 := h2.mo e36
      by_cases hk0 : c1.kids = []
      · cases c1 with
        | is f g h r m =>
          obtain ⟨aa, bb, rfl, hq, _⟩ := leaf_of hy6 (Cl.tr_is (.is f g h r m))
          exact s_when (b := false) (et_test (ev_is (ev_strNe (ev_op (ev_var rfl) ev_c (rv_ixQ hq (atI_zero _ _))) ev_c) (by rw [decide_eq_true rfl] <;> rfl))) (fun z => nomatch z) fun _ H7 e7 =>
            ⟨_, _, _, _, _, vs1, _, its1, rfl, e7 _ _ hds6, e7 _ _ hvs6, both_imp (fun v x h => h.ex e7) bq6, both_imp (fun v x h => h.ex e7) bw6, htot2, lq2, e36.trans e7⟩
        | _ => exact nomatch hk0
      · rw [tr_kids hk0] at h2
        cases h2 with
        | @lst a xs _ hs ha =>
        cases ha with
        | @cons v0 vr _ _ hv0 hvr =>
        cases hv0
        have hlr : vr.length = c1.kids.length := hvr.length.trans (List.length_map _)
        have hk2 := kids_two c1
        have hq6 : Sq K H6 a (V.str c1.word :: vr) := .inl (ex_l e36 hs)
        refine s_when (b := true) (et_test (ev_is (ev_strNe (ev_op (ev_var rfl) ev_c (rv_ixQ hq6 (atI_zero _ _))) ev_c) (by rw [decide_eq_false (Cl.word_is hk0)] <;> rfl))) (fun _ H7 e7 => ?_) fun z => nomatch z
        refine s_forR2 (lo := 1) (n := ((V.str c1.word :: vr).length : Int)) (ea_cons ev_c (ea_cons (ev_lenQ (ev_var rfl) (hq6.ex e7)) ea_nil)) (by rw [List.length_cons]; omega)
          (fun i σ' H' => ∃ (o6 : Option V) (vs2 : List V), σ' = [some v, some (.ref pp), some (.ref pw), some (.int (k : Int)), some (.ref a), some (.ref b1), o6] ∧ H' pp = some (.lst (ds ++ [V.ref b1])) ∧ H' pw = some (.lst vs2.reverse) ∧ Both (PathAt K H') (ds ++ [V.ref b1]) (qs ++ [p1]) ∧
            Both (WaitAt K H H') vs2 (kitems (c1.kids.drop (c1.kids.length - i)) p1 (c1.kids.length - i + 1) ++ its1) ∧ vs2.length ≤ vs1.length + i ∧ SqT K H' b1 (p1.map V.int) ∧ Ex H H')
          (fun H8 e8 => ⟨_, vs1, rfl, (e7.trans e8) _ _ hds6, (e7.trans e8) _ _ hvs6, both_imp (fun v x h => h.ex (e7.trans e8)) bq6, by
            rw [Nat.sub_zero, List.drop_length]
            exact both_imp (fun v x h => h.ex (e7.trans e8)) bw6, Nat.le_refl _, ex_t (e7.trans e8) sqb, e36.trans (e7.trans e8)⟩) ?_ ?_
        · rintro i σ' H' hi ⟨o6, vs2, rfl, hds7, hvs7, bq7, bw7, lv7, sqb7, e37⟩
          rw [List.length_cons] at hi
          have him : i < c1.kids.length := by omega
          have hj : c1.kids.length - (i + 1) < c1.kids.length := by omega
          have ej : c1.kids.length - (i + 1) + 1 = c1.kids.length - i := by omega
          have hkj := List.getElem?_eq_getElem hj
          have hkd := kitems_drop (p := p1) hkj
          rw [ej] at hkd
          obtain ⟨u, hu1, hu2⟩ := hvr.get (i := c1.kids.length - (i + 1)) (by rw [List.getElem?_map, hkj] <;> rfl)
          have hq7 : Sq K H' a (V.str c1.word :: vr) := .inl (ex_l e37 hs)
          have eix : (((V.str c1.word :: vr).length : Nat) : Int) - (1 + (i : Int)) = ((c1.kids.length - i : Nat) : Int) := by rw [List.length_cons]; omega
          have hat : atI (V.str c1.word :: vr) ((c1.kids.length - i : Nat) : Int) = some u := atI_nat (by rw [← ej, List.getElem?_cons_succ]; exact hu1)
          have h4' : p1.length + c1.depth ≤ 12 := h4
          refine s_appP (P := fun v H8 => WaitAt K H H8 v (c1.kids[c1.kids.length - (i + 1)], p1 ++ [((c1.kids.length - i : Nat) : Int)])) hvs7 (ev_var rfl) (EvP.imp (evp_tupP (R := fun ws H8 => ∃ b, ws = [u, .ref b] ∧ SqT K H8 b ((p1 ++ [((c1.kids.length - i : Nat) : Int)]).map V.int)) ?_ fun ws H8 hv => ?_) fun v2 H8 e8 hv2 => ?_) (by rw [List.length_reverse]; omega) fun v2 H8 e8 hw2 => ?_
          · refine eap_cons (P := fun v _ => v = u) (evp_ev (ev_op (ev_var rfl) (ev_is (ev_op (ev_lenQ (ev_var rfl) hq7) (ev_var rfl) rv_I0) (by rw [eix])) (rv_ixQ hq7 hat)) fun _ _ => rfl) fun v2 H8 e8 hv2 => ?_
            subst hv2
            refine eap_cons (evp_catA (ev_var rfl) (ex_t e8 sqb7) (eu_tup (ea_cons (ev_is (ev_op (ev_lenQ (ev_var rfl) (hq7.ex e8)) (ev_var rfl) rv_I0) (by rw [eix])) ea_nil) (by show 1 ≤ 100000; decide)) (fun z => nomatch z) (by show (p1.map V.int).length + 1 ≤ 1000; rw [List.length_map]; omega)) fun v3 H9 e9 hv3 => ?_
            obtain ⟨b, rfl, hb⟩ := hv3
            exact fun H10 e10 Q' q' => q' [] H10 (Ex.refl H10) ⟨b, rfl, by rw [List.map_append]; exact ex_t e10 hb⟩
          · obtain ⟨b, rfl, _⟩ := hv
            show 2 ≤ 100000
            decide
          · obtain ⟨p, ws, H9, rfl, hp, e9, b, rfl, hb⟩ := hv2
            have kd := kid_depth (List.getElem_mem hj)
            refine ⟨p, u, b, rfl, st_of hp, hu2, ex_t e9 hb, ?_⟩
            show (p1 ++ [((c1.kids.length - i : Nat) : Int)]).length + c1.kids[c1.kids.length - (i + 1)].depth ≤ 12
            rw [List.length_append]
            show p1.length + 1 + _ ≤ 12
            omega
          · have hvs8 := e8 _ _ hvs7
            refine ⟨_, v2 :: vs2, rfl, by rw [upd_ne npw]; exact e8 _ _ hds7, by rw [List.reverse_cons]; exact upd_same, both_imp (fun v x h => (h.ex e8).upd hvs8) bq7, ?_, by rw [List.length_cons]; omega, sqT_upd (ex_t e8 sqb7) hvs8, Ex.mut (e37.trans e8) hnw⟩
            rw [ej, hkd]
            exact ⟨hw2.upd hvs8, both_imp (fun v x h => (h.ex e8).upd hvs8) bw7⟩
        · rintro σ' H' ⟨o6, vs2, rfl, hds7, hvs7, bq7, bw7, lv7, sqb7, e37⟩
          have em : (((V.str c1.word :: vr).length : Int) - 1).toNat = c1.kids.length := by rw [List.length_cons, hlr]; omega
          rw [em, Nat.sub_self, List.drop_zero] at bw7
          exact ⟨_, _, _, _, _, vs2, _, _, rfl, hds7, hvs7, bq7, bw7, by rw [expand_app]; exact htot2, lq2, e37⟩
  · rintro σ' H' ⟨o3, o4, o5, o6, ds, vs, qs, its, rfl, hds, hvs, bq, bw, htot, hql, e3⟩
    have tql : qs.length + (expand its).length = c.tr.size := by rw [← hlen, htot, List.length_append]
    have : (500 : Int).toNat = 500 := rfl
    omega
end
end Kf

set_option Elab.async false
set_option linter.all false
set_option maxRecDepth 100000
set_option maxHeartbeats 4000000
namespace Kf
open PySem L2 Evl
/-! ### new data, some lists left out of sight -/
def RpG (K : PySem.W.Frag) (Al : List Addr) (G : Py → Prop) : Pr := fun v H => ∃ d, G d ∧ Rp K (delL H Al) v d
def AlOk (H : Hp) (Al : List Addr) : Prop := ∀ b ∈ Al, H b ≠ none
def AllG (K : PySem.W.Frag) (Al : List Addr) (n : Nat) (G : Py → Prop) (vs : List V) (H : Hp) : Prop := vs.length = n ∧ ∀ v ∈ vs, RpG K Al G v H
def RaG (K : PySem.W.Frag) (Al : List Addr) (G : List Py → Prop) (vs : List V) (H : Hp) : Prop := ∃ ds, RpAll K (delL H Al) vs ds ∧ G ds
/-- a list that stands there -/
def LsG (K : PySem.W.Frag) (Al : List Addr) (G : List Py → Prop) : Pr := fun v H => ∃ p xs, v = .ref p ∧ H p = some (.lst xs) ∧ p ∉ Al ∧ RaG K Al G xs H
section
variable {K : PySem.W.Frag} {σ : L2.St} {H H' : Hp} {Al Al' : List Addr} {ta tb te tk tv : TE} {tr : TA} {G G' : Py → Prop} {L L' : List Py → Prop} {tz : TS} {D : Ends}
theorem AlOk.mo (h : AlOk H Al) (e : Ex H H') : AlOk H' Al := fun b hb z => by
  cases q : H b with
  | none => exact h b hb q
  | some o => rw [e _ _ q] at z; cases z
theorem AlOk.out {p : Addr} (h : AlOk H Al) (hp : H p = none) : p ∉ Al := fun hb => h p hb hp
theorem RpG.mo {v : V} (h : RpG K Al G v H) (e : Ex H H') : RpG K Al G v H' := by
  obtain ⟨d, g, r⟩ := h
  exact ⟨d, g, r.mo (ex_delL e)⟩
theorem RpG.imp {v : V} (h : RpG K Al G v H) (k : ∀ d, G d → G' d) : RpG K Al G' v H := by
  obtain ⟨d, g, r⟩ := h
  exact ⟨d, k d g, r⟩
theorem RpG.sub {v : V} (h : RpG K Al G v H) (k : ∀ b ∈ Al', b ∈ Al) : RpG K Al' G v H := by
  obtain ⟨d, g, r⟩ := h
  exact ⟨d, g, r.mo (ex_delL_sub k)⟩
theorem RaG.mo {vs : List V} (h : RaG K Al L vs H) (e : Ex H H') : RaG K Al L vs H' := by
  obtain ⟨d, r, g⟩ := h
  exact ⟨d, r.mo (ex_delL e), g⟩
theorem LsG.mo {v : V} (h : LsG K Al L v H) (e : Ex H H') : LsG K Al L v H' := by
  obtain ⟨p, xs, h1, h2, h3, h4⟩ := h
  exact ⟨p, xs, h1, e _ _ h2, h3, h4.mo e⟩
theorem LsG.rp {v : V} (h : LsG K Al L v H) (k : ∀ ds, L ds → G (.lst ds)) : RpG K Al G v H := by
  obtain ⟨p, xs, rfl, h2, h3, ds, h4, h5⟩ := h
  exact ⟨.lst ds, k ds h5, .of_list (by rw [delL_out h3]; exact h2) h4⟩
theorem EvP.sub {P : Pr} {P' : Pr} (h : EvP te σ H P) (k : ∀ v H1, P v H1 → P' v H1) : EvP te σ H P' := h.imp fun v H1 _ p => k v H1 p
theorem EvAP.mono {P : List V → Hp → Prop} (h : EvAP tr σ H P) (e : Ex H H') : EvAP tr σ H' P := fun H1 a Q q => h H1 (e.trans a) Q q
/-! values -/
theorem g_int {i : Int} (h : Ev te σ H (.int i)) (g : G (.int i)) : EvP te σ H (RpG K Al G) := evp_ev h fun _ _ => ⟨_, g, .int i⟩
theorem g_bl {b : Bool} (h : Ev te σ H (.bl b)) (g : G (.bl b)) : EvP te σ H (RpG K Al G) := evp_ev h fun _ _ => ⟨_, g, .bl b⟩
theorem g_non (h : Ev te σ H .non) (g : G .non) : EvP te σ H (RpG K Al G) := evp_ev h fun _ _ => ⟨_, g, .non⟩
theorem g_str {x : Str} (h : Ev te σ H (.str x)) (g : G (.str x)) : EvP te σ H (RpG K Al G) := evp_ev h fun _ _ => ⟨_, g, .str x⟩
theorem g_var {i : Nat} {v : V} (h : σ[i]? = some (some v)) (r : RpG K Al G v H) : EvP (tVar i) σ H (RpG K Al G) := evp_var h fun H1 e => r.mo e
theorem g_lvar {i : Nat} {v : V} (h : σ[i]? = some (some v)) (r : LsG K Al L v H) : EvP (tVar i) σ H (LsG K Al L) := evp_var h fun H1 e => r.mo e
theorem g_new (ok : AlOk H Al) (g : ∀ p, G (.dic p)) : EvP tDNewK σ H (RpG K Al G) := fun H1 e Q q p hp => q _ _ (Ex.new hp) ⟨_, g p, .dic (kvs := []) (by rw [delL_out ((ok.mo e).out hp)]; exact upd_same)⟩
/-! several values -/
theorem ra_nil : EvAP tNil σ H (RaG K Al fun ds => ds = []) := fun H1 _ Q q => q [] H1 (Ex.refl H1) ⟨[], .nil, rfl⟩
theorem ra_cons (h : EvP te σ H (RpG K Al G)) (hr : EvAP tr σ H (RaG K Al L)) : EvAP (tCons te tr) σ H (RaG K Al fun ds => ∃ d es, ds = d :: es ∧ G d ∧ L es) := fun H1 a Q q =>
  h H1 a _ fun v H2 a2 hv => hr H2 (a.trans a2) _ fun vs H3 a3 hvs => q _ H3 (a2.trans a3) (by
    obtain ⟨d, g, r⟩ := hv.mo a3
    obtain ⟨es, r2, l⟩ := hvs
    exact ⟨d :: es, .cons r r2, d, es, rfl, g, l⟩)
theorem g_lit (ok : AlOk H Al) (h : EvAP tr σ H (RaG K Al L)) (k : ∀ ds, L ds → ds.length ≤ 100000) : EvP (tLst tr) σ H (LsG K Al L) := fun H1 a Q q =>
  h H1 a _ fun vs H2 a2 hv => by
    obtain ⟨ds, r, l⟩ := hv
    refine ⟨sz_of (by rw [r.length]; exact k ds l), fun p hp => q _ _ (a2.trans (Ex.new hp)) ⟨p, vs, rfl, upd_same, ((ok.mo a).mo a2).out hp, ds, r.mo (ex_delL (Ex.new hp)), l⟩⟩
theorem g_tup (ok : AlOk H Al) (h : EvAP tr σ H (RaG K Al L)) (k : ∀ ds, L ds → ds.length ≤ 100000) (g : ∀ ds, L ds → G (.tup ds)) : EvP (tTup tr) σ H (RpG K Al G) := fun H1 a Q q =>
  h H1 a _ fun vs H2 a2 hv => by
    obtain ⟨ds, r, l⟩ := hv
    refine ⟨sz_of (by rw [r.length]; exact k ds l), fun p hp => q _ _ (a2.trans (Ex.new hp)) ⟨.tup ds, g ds l, .of_tup (by rw [delL_out (((ok.mo a).mo a2).out hp)]; exact upd_same) (r.mo (ex_delL (Ex.new hp)))⟩⟩
theorem g_lst (ok : AlOk H Al) (h : EvAP tr σ H (RaG K Al L)) (k : ∀ ds, L ds → ds.length ≤ 100000) (g : ∀ ds, L ds → G (.lst ds)) : EvP (tLst tr) σ H (RpG K Al G) := (g_lit ok h k).sub fun v H1 hv => hv.rp g
/-- many of one kind -/
theorem ag_nil : EvAP tNil σ H (AllG K Al 0 G) := fun H1 _ Q q => q [] H1 (Ex.refl H1) ⟨rfl, fun v h => nomatch h⟩
theorem ag_cons {n : Nat} (h : EvP te σ H (RpG K Al G)) (hr : EvAP tr σ H (AllG K Al n G)) : EvAP (tCons te tr) σ H (AllG K Al (n + 1) G) := fun H1 a Q q =>
  h H1 a _ fun v H2 a2 hv => hr H2 (a.trans a2) _ fun vs H3 a3 hvs => q _ H3 (a2.trans a3) ⟨congrArg (· + 1) hvs.1, fun w hw => by
    rcases List.mem_cons.mp hw with rfl | hw
    · exact hv.mo a3
    · exact hvs.2 w hw⟩
theorem AllG.mo {n : Nat} {vs : List V} (h : AllG K Al n G vs H) (e : Ex H H') : AllG K Al n G vs H' := ⟨h.1, fun v hv => (h.2 v hv).mo e⟩
theorem at_mem {vs : List V} {i : Int} (h0 : 0 ≤ i) (h1 : i < vs.length) : ∃ v ∈ vs, atI vs i = some v := by
  have hj : i.toNat < vs.length := by omega
  have k : atI vs ((i.toNat : Nat) : Int) = some vs[i.toNat] := atI_nat (List.getElem?_eq_getElem hj)
  rw [show ((i.toNat : Nat) : Int) = i by omega] at k
  exact ⟨vs[i.toNat], List.getElem_mem hj, k⟩
theorem g_pick {n : Nat} {i : Int} (h : EvAP tr σ H (AllG K Al n G)) (hn : n ≤ 100000) (hb : Ev tb σ H (.int i)) (h0 : 0 ≤ i) (h1 : i < n) : EvP (tOp (rIxL K) (tLst tr) tb) σ H (RpG K Al G) := fun H1 a Q q =>
  h H1 a _ fun vs H2 a2 hv => ⟨sz_of (by rw [hv.1]; exact hn), fun p hp => hb _ ((a.trans a2).trans (Ex.new hp)) _ fun H3 a3 => by
    obtain ⟨v, hm, hat⟩ := at_mem (vs := vs) h0 (by rw [hv.1]; exact h1)
    exact ⟨p, vs, i, v, rfl, rfl, sq_of (a3 _ _ upd_same), hat, q v H3 ((a2.trans (Ex.new hp)).trans a3) ((hv.2 v hm).mo ((Ex.new hp).trans a3))⟩⟩
theorem g_pickV {n k : Nat} {i : Int} {p : Addr} {vs : List V} (hs : σ[k]? = some (some (.ref p))) (hp : H p = some (.lst vs)) (hv : AllG K Al n G vs H) (hb : Ev tb σ H (.int i)) (h0 : 0 ≤ i) (h1 : i < n) : EvP (tOp (rIxL K) (tVar k) tb) σ H (RpG K Al G) := fun H1 a Q q =>
  ⟨_, hs, hb H1 a _ fun H3 a3 => by
    obtain ⟨v, hm, hat⟩ := at_mem (vs := vs) h0 (by rw [hv.1]; exact h1)
    exact ⟨p, vs, i, v, rfl, rfl, sq_of (a3 _ _ (a _ _ hp)), hat, q v H3 a3 ((hv.2 v hm).mo (a.trans a3))⟩⟩
/-- lists put together -/
theorem g_cat (ok : AlOk H Al) (ha : EvP ta σ H (LsG K Al L)) (hb : EvP tb σ H (LsG K Al L')) (hz : ∀ ds es, L ds → L' es → ds.length + es.length ≤ 100000) : EvP (tOp rCat ta tb) σ H (LsG K Al fun ds => ∃ es fs, ds = es ++ fs ∧ L es ∧ L' fs) := fun H1 a Q q =>
  ha H1 a _ fun v H2 a2 hv => hb H2 (a.trans a2) _ fun u H3 a3 hu => by
    obtain ⟨p, xs, rfl, h1, h2, ds, h3, h4⟩ := hv.mo a3
    obtain ⟨p', ys, rfl, g1, g2, es, g3, g4⟩ := hu
    refine ⟨p, p', xs, ys, rfl, rfl, h1, g1, sz_of (by rw [h3.length, g3.length]; exact hz ds es h4 g4), fun l hl => ?_⟩
    exact q _ _ ((a2.trans a3).trans (Ex.new hl)) ⟨l, _, rfl, upd_same, (ok.mo ((a.trans a2).trans a3)).out hl, ds ++ es, (h3.app g3).mo (ex_delL (Ex.new hl)), ds, es, rfl, h4, g4⟩
theorem RpAll.drop {xs : List V} {ds : List Py} : ∀ (n : Nat), RpAll K H xs ds → RpAll K H (xs.drop n) (ds.drop n) := fun n h => by
  induction n generalizing xs ds with
  | zero => exact h
  | succ n ih =>
    cases h with
    | nil => exact .nil
    | cons h1 h2 => exact ih h2
theorem RpAll.take {xs : List V} {ds : List Py} : ∀ (n : Nat), RpAll K H xs ds → RpAll K H (xs.take n) (ds.take n) := fun n h => by
  induction n generalizing xs ds with
  | zero => exact .nil
  | succ n ih =>
    cases h with
    | nil => exact .nil
    | cons h1 h2 => exact .cons h1 (ih h2)
theorem cut_drop1 (xs : List V) : cutV xs (some 1) none = xs.drop 1 := by
  unfold cutV
  rw [HT.sIx_none, show (1 : Int) = ((1 : Nat) : Int) from rfl, HT.sIx_nat]
  cases xs with
  | nil => rfl
  | cons x r =>
    rw [Nat.min_eq_left (by show 1 ≤ r.length + 1; omega)]
    exact List.take_of_length_le (by rw [List.length_drop]; exact Nat.le_refl _)
theorem cut_take {xs : List V} {n : Nat} {i : Int} (e : i = (n : Int)) (h : n ≤ xs.length) : cutV xs none (some i) = xs.take n := by
  subst e
  unfold cutV
  rw [HT.sIx_none, HT.sIx_nat, Nat.min_eq_left h, List.drop_zero, Nat.sub_zero]
theorem g_tail {i : Nat} {p : Addr} {xs : List V} {ds : List Py} (ok : AlOk H Al) (hs : σ[i]? = some (some (.ref p))) (hp : SqL K H p xs) (hr : RpAll K (delL H Al) xs ds) : EvP (tSl (rSlL K) (tVar i) (tPart (tC (.int 1))) tNoPart) σ H (LsG K Al fun es => es = ds.drop 1) := fun H1 e1 Q q =>
  el_sl (ev_var hs) (eo_some ev_c) eo_none hp H1 e1 _ fun p2 H2 hp2 e2 h2 => q _ H2 e2 ⟨p2, _, rfl, h2, (ok.mo e1).out hp2, _, (hr.mo (ex_delL (e1.trans e2))).drop 1 |> fun h => by rw [cut_drop1]; exact h, rfl⟩
theorem g_head {i n : Nat} {p : Addr} {xs : List V} {ds : List Py} {th : TE} {j : Int} (ok : AlOk H Al) (hs : σ[i]? = some (some (.ref p))) (hp : SqL K H p xs) (hr : RpAll K (delL H Al) xs ds) (hj : Ev th σ H (.int j)) (e : j = (n : Int)) (hn : n ≤ xs.length) :
    EvP (tSl (rSlL K) (tVar i) tNoPart (tPart th)) σ H (LsG K Al fun es => es = ds.take n) := fun H1 e1 Q q =>
  el_sl (ev_var hs) eo_none (eo_some hj) hp H1 e1 _ fun p2 H2 hp2 e2 h2 => q _ H2 e2 ⟨p2, _, rfl, h2, (ok.mo e1).out hp2, _, by rw [cut_take e hn]; exact (hr.mo (ex_delL (e1.trans e2))).take n, rfl⟩
/-! dicts written out -/
def EvPs (trs : List (TE × TE)) (σ : L2.St) (H : Hp) (P : List (V × V) → Hp → Prop) : Prop := ∀ H1, Ex H H1 → ∀ Q : List (V × V) → Hp → Prop, (∀ ps H2, Ex H1 H2 → P ps H2 → Q ps H2) → tPairs trs σ H1 Q
def Keyed (n : Nat) (ps : List (V × V)) : Prop := ∃ kvs : List (Key × V), ps = kvs.map (fun kv => (kV kv.1, kv.2)) ∧ kvs.length = n
theorem eps_nil : EvPs [] σ H fun ps _ => Keyed 0 ps := fun H1 _ Q q => q [] H1 (Ex.refl H1) ⟨[], rfl, rfl⟩
theorem eps_cons {trs : List (TE × TE)} {n : Nat} {i : Int} (hk : Ev tk σ H (.int i)) (hv : EvP tv σ H fun _ _ => True) (hr : EvPs trs σ H fun ps _ => Keyed n ps) : EvPs ((tk, tv) :: trs) σ H fun ps _ => Keyed (n + 1) ps := fun H1 a Q q =>
  hk H1 a _ fun H2 a2 => hv H2 (a.trans a2) _ fun v H3 a3 _ => hr H3 ((a.trans a2).trans a3) _ fun ps H4 a4 hp => q _ H4 ((a2.trans a3).trans a4) (by
    obtain ⟨kvs, h1, h2⟩ := hp
    exact ⟨(Sum.inl i, v) :: kvs, by rw [h1] <;> rfl, congrArg (· + 1) h2⟩)
theorem g_disp {trs : List (TE × TE)} {n : Nat} (ok : AlOk H Al) (h : EvPs trs σ H fun ps _ => Keyed n ps) (hn : n ≤ 15) (g : ∀ p, G (.dic p)) : EvP (tDisp trs) σ H (RpG K Al G) := fun H1 e Q q p hp =>
  h _ (e.trans (Ex.new hp)) _ fun ps H2 e2 hk => by
    obtain ⟨kvs, h1, h2⟩ := hk
    refine ⟨e2 _ _ upd_same, kvs, h1, by rw [h2]; exact hn, q _ _ ?_ ⟨_, g p, .dic (kvs := mergeK [] kvs) (by rw [delL_out ((ok.mo e).out hp)]; exact upd_same)⟩⟩
    exact Ex.mut (((Ex.new hp).trans e2)) hp
end
end Kf

set_option Elab.async false
set_option linter.all false
set_option maxRecDepth 100000
set_option maxHeartbeats 4000000
namespace Kf
open PySem L2 Evl
def SmD (n : Nat) (d : Py) : Prop := d.dep ≤ n ∧ d.thin = true
theorem rightIs_mod {e r m : Py} (h : modB r m = false) : rightIs e r m = false := by
  unfold rightIs
  cases e.seq with
  | none => rfl
  | some l =>
    show (if l.length = 3 then factorsB l && modB r m else false) = false
    rw [h, Bool.and_false]
    split <;> rfl
theorem rightIs_fac {l : List Py} {r m : Py} (h : factorsB l = false) : rightIs (.lst l) r m = false := by
  show (if l.length = 3 then factorsB l && modB r m else false) = false
  rw [h, Bool.false_and]
  split <;> rfl
theorem bad_is {e r m : Py} (h : rightIs e r m = false) : BadD (.lst [.str "is", e, r, m]) := fun ds hd => by
  cases (Option.some.inj hd)
  show (if arity "is" = some (3 + 1) then (if ("is" : Str) = "is" then rightIs e r m else true) else false) = false
  rw [if_pos arity_is, if_pos rfl]
  exact h
theorem rightIs_len {l : List Py} {r m : Py} (h : l.length ≠ 3) : rightIs (.lst l) r m = false := if_neg h
theorem bnd_out {i lo hi : Int} (h : i < lo ∨ hi < i) : boundedB (.int i) lo hi = false := by
  show (decide (lo ≤ i) && decide (i ≤ hi)) = false
  rcases h with h | h
  · rw [decide_eq_false (by omega), Bool.false_and]
  · rw [decide_eq_false (p := i ≤ hi) (by omega), Bool.and_false]
theorem mod_big {i : Int} (h : i < 1 ∨ 12 < i) (r : Py) : modB r (.int i) = false := by
  show (boundedB (.int i) 1 12 && boundedB r 0 (i - 1)) = false
  rw [bnd_out h, Bool.false_and]
theorem mod_rest {d : Py} {m : Int} (h : boundedB d 0 (m - 1) = false) : modB d (.int m) = false := by
  show (boundedB (.int m) 1 12 && boundedB d 0 (m - 1)) = false
  rw [h, Bool.and_false]
theorem fac_set : ∀ {l : List Py} {j : Nat} {d : Py}, j < l.length → boundedB d (-99) 99 = false → factorsB (l.set j d) = false
  | [], j, d, h, _ => absurd h (Nat.not_lt_zero j)
  | x :: l, 0, d, _, hd => by
    show (boundedB d (-99) 99 && factorsB l) = false
    rw [hd, Bool.false_and]
  | x :: l, j + 1, d, h, hd => by
    show (boundedB x (-99) 99 && factorsB (l.set j d)) = false
    rw [fac_set (Nat.lt_of_succ_lt_succ h) hd, Bool.and_false]
theorem RpAll.put {K : PySem.W.Frag} {H : Hp} {v : V} {d : Py} (h : Rp K H v d) : ∀ {xs : List V} {ds : List Py} (j : Nat), RpAll K H xs ds → RpAll K H (xs.set j v) (ds.set j d)
  | [], ds, j, hx => by cases hx; exact .nil
  | x :: xs, ds, j, hx => by
    cases hx with
    | cons h1 h2 =>
      cases j with
      | zero => exact .cons h h2
      | succ j => exact .cons h1 (RpAll.put h j h2)
section
variable {K : PySem.W.Frag} {σ : L2.St} {H H' : Hp} {ta tb te : TE} {tz : TS} {D : Ends} {P : Pr}
theorem s_setP {l : Addr} {xs : List V} {j : Nat} (hl : H l = some (.lst xs)) (h : EvP te σ H P) (ho : Ev ta σ H (.ref l)) (hi : Ev tb σ H (.int (j : Int))) (hj : j < xs.length) (k : ∀ v H1 H3, Ex H H1 → P v H1 → Ex H1 H3 → D.nx σ (upd H3 l (.lst (xs.set j v)))) :
    tAsg te (gSub ta tb rSetL) D σ H := h H (Ex.refl H) _ fun v H1 e1 hp => ho H1 e1 _ fun H2 e2 => hi H2 (e1.trans e2) _ fun H3 e3 => by
  exact ⟨l, xs, (j : Int), j, rfl, rfl, ((e1.trans e2).trans e3) _ _ hl, ixN_nat hj, k v H1 H3 e1 hp (e2.trans e3)⟩
theorem q_setP {l : Addr} {xs : List V} {j : Nat} (hl : H l = some (.lst xs)) (h : EvP te σ H P) (ho : Ev ta σ H (.ref l)) (hi : Ev tb σ H (.int (j : Int))) (hj : j < xs.length) (k : ∀ v H1 H3, Ex H H1 → P v H1 → Ex H1 H3 → tz D σ (upd H3 l (.lst (xs.set j v)))) :
    tSeq (tAsg te (gSub ta tb rSetL)) tz D σ H := s_setP (D := { D with nx := tz D }) hl h ho hi hj k
end
def BadS (n : Nat) (d : Py) : Prop := BadD d ∧ SmD n d
def spBadIs (K : PySem.W.Frag) : Sp := fun vs H Q _ => ∃ (a b : Addr) (kind pick place f g h r m : Int) (Al : List Addr), vs = [.ref a, .int kind, .int pick, .int place] ∧ H a = some (.lst [.str "is", .ref b, .int r, .int m]) ∧ H b = some (.lst [.int f, .int g, .int h]) ∧ LeafOk f g h r m ∧ (0 ≤ kind ∧ kind ≤ 3) ∧ 0 ≤ pick ∧ (0 ≤ place ∧ place ≤ 2) ∧
  AlOk H Al ∧ ∀ v H', Ex H H' → RpG K Al (BadS 4) v H' → Q v H'
section
variable {P : Program} {w : World} {K : PySem.W.Frag} {mg : Str → Option Value} {base : Heap} {H : Hp}
abbrev sLawBadIs : Stmt := top 39
theorem scLawBadIs : FnScope ["node", "kind", "pick", "place", "factors", "many", "two", "odd"] ["node", "kind", "pick", "place"] (defScope sLawBadIs) := ⟨rfl, rfl, rfl, by decide +kernel, rfl, by decide +kernel, by decide +kernel⟩
theorem df_badIs (B : Bi mg) (S : At K mg "_law_bad_is" sLawBadIs ["node", "kind", "pick", "place"]) : Df P w K mg base CX0 "_law_bad_is" 1 ["node", "kind", "pick", "place"] (spBadIs K) := by
  obtain ⟨f0, fd, F, mm, b0⟩ := S
  refine ⟨f0, fd, mm, F.kp, b0, F.ok scLawBadIs (fun vs H Q E h => ?_) (fun cdv A outer s H vs Q E hr h => ?_)⟩
  · obtain ⟨a, b, kind, pick, place, f, g, h, r, m, Al, rfl, _⟩ := h
    rfl
  obtain ⟨a, b, kind, pick, place, f, g, h, r, m, Al, rfl, ha, hb, lok, hk, hp0, hpl, aok, q⟩ := h
  refine ⟨_, (pss_cons (ps_set (i := 4) scLawBadIs.nd rfl (Or.inl rfl) (pe_callTy call_list_of rfl B.list PyProof.Rows.boot_list (pa_cons (pe_ix ix_list (pv 0) pe_int (fun _ _ => rfl)) pa_nil)))
  (pss_cons (ps_set (i := 5) scLawBadIs.nd rfl (Or.inl rfl) (pe_ix ix_list (pv 0) pe_int (fun _ _ => rfl)))
  (pss_cons (ps_if (pt_cmpR op_eq (pv 1) pe_int (nomark _)) (pss_cons (ps_asg (pe_ix ix_list (pe_lst (pa_cons pe_int (pa_cons (pe_un un_neg pe_int) (pa_cons pe_bl (pa_cons pe_non (pa_cons pe_str (pa_cons (pe_lst (pa_cons pe_int pa_nil)) (pa_cons (pe_op op_pow pe_int pe_int) (pa_cons pe_bl (pa_cons pe_dnewK (pa_cons (pe_op op_sub pe_int (pe_op op_pow pe_int pe_int)) pa_nil))))))))))) (pe_op op_mod (pv 2) pe_int) (fun _ _ => rfl)) (pg_sub (pv 4) (pv 3) set_list))
  (pss_one (ps_ret (pe_lst (pa_cons pe_str (pa_cons (pv 4) (pa_cons (pe_ix ix_list (pv 0) pe_int (fun _ _ => rfl)) (pa_cons (pv 5) pa_nil)))))))) pss_nil)
  (pss_cons (ps_if (pt_cmpR op_eq (pv 1) pe_int (nomark _)) (pss_cons (ps_set (i := 6) scLawBadIs.nd rfl (Or.inl rfl) (pe_slice sl_list (pv 4) po_none (po_some pe_int)))
  (pss_cons (ps_set (i := 7) scLawBadIs.nd rfl (Or.inl rfl) (pe_lst (pa_cons (pv 6) (pa_cons (pe_op op_cat (pv 4) (pe_lst (pa_cons pe_int pa_nil))) (pa_cons (pe_lst pa_nil) (pa_cons pe_int (pa_cons pe_str (pa_cons pe_non (pa_cons (pe_disp (pps_cons pe_int pe_int (pps_cons pe_int pe_int (pps_cons pe_int pe_int pps_nil))) (by rfl) (by rfl) (fun z => by cases z) (by decide)) (pa_cons (pe_lst (pa_cons (pv 6) (pa_cons pe_int (pa_cons pe_int pa_nil)))) (pa_cons (pe_lst (pa_cons (pv 4) pa_nil)) (pa_cons pe_bl pa_nil))))))))))))
  (pss_one (ps_ret (pe_lst (pa_cons pe_str (pa_cons (pe_ix ix_list (pv 7) (pe_op op_mod (pv 2) pe_int) (fun _ _ => rfl)) (pa_cons (pe_ix ix_list (pv 0) pe_int (fun _ _ => rfl)) (pa_cons (pv 5) pa_nil))))))))) pss_nil)
  (pss_cons (ps_if (pt_cmpR op_eq (pv 1) pe_int (nomark _)) (pss_one (ps_ret (pe_lst (pa_cons pe_str (pa_cons (pv 4) (pa_cons (pe_ix ix_list (pv 0) pe_int (fun _ _ => rfl)) (pa_cons (pe_ix ix_list (pe_lst (pa_cons pe_int (pa_cons pe_int (pa_cons (pe_un un_neg pe_int) (pa_cons pe_bl (pa_cons pe_non (pa_cons pe_str (pa_cons (pe_op op_pow pe_int pe_int) (pa_cons (pe_lst (pa_cons pe_int pa_nil)) (pa_cons pe_int (pa_cons (pe_un un_neg pe_int) pa_nil))))))))))) (pe_op op_mod (pv 2) pe_int) (fun _ _ => rfl)) pa_nil))))))) pss_nil)
  (pss_one (ps_ret (pe_lst (pa_cons pe_str (pa_cons (pv 4) (pa_cons (pe_ix ix_list (pe_lst (pa_cons (pv 5) (pa_cons (pe_un un_neg pe_int) (pa_cons pe_bl (pa_cons pe_non (pa_cons pe_str (pa_cons (pe_op op_add (pv 5) pe_int) (pa_cons pe_bl (pa_cons (pe_lst (pa_cons pe_int pa_nil)) (pa_cons (pe_un un_neg (pv 5)) (pa_cons (pe_op op_pow pe_int pe_int) pa_nil))))))))))) (pe_op op_mod (pv 2) pe_int) (fun _ _ => rfl)) (pa_cons (pv 5) pa_nil)))))))))))), ?_⟩
  have ix : ∀ {H' : Hp} {j : Int} {v : V} {σ : L2.St}, Ex H H' → σ[0]? = some (some (.ref a)) → atI [V.str "is", .ref b, .int r, .int m] j = some v → Ev (tOp (rIxL K) (tVar 0) (tC (.int j))) σ H' v := fun e hs h => ev_op (ev_var hs) ev_c (rv_ixL (sq_of (e _ _ ha)) h)
  refine q_asgL (el_listQ (ix (Ex.refl H) rfl rfl) (.inl (sq_of hb))) fun pf H1 hpf e1 h1 => ?_
  refine q_asg (ix e1 rfl rfl) fun H2 e2 => ?_
  have h2 := e2 _ _ h1
  have e12 := e1.trans e2
  have p0 : 0 ≤ pick % 10 := Int.emod_nonneg _ (by decide)
  have p1 : pick % 10 < 10 := Int.emod_lt_of_pos _ (by decide)
  have m0 := lok.m0
  have pk : ∀ {H' : Hp} {σ : L2.St}, σ[2]? = some (some (.int pick)) → Ev (tOp (rI (fun _ j => 0 < j) fun i j => .int (i % j)) (tVar 2) (tC (.int 10))) σ H' (.int (pick % 10)) := fun hs => ev_mod (ev_var hs) ev_c (by decide)
  refine q_when (et_test (ev_intEq (ev_var rfl) ev_c)) (fun hb0 H3 e3 => ?_) fun hb0 H3 e3 => ?_
  · have h3 := e3 _ _ h2
    have aok3 : AlOk H3 (pf :: Al) := fun b hb => by
      rcases List.mem_cons.mp hb with rfl | hb
      · rw [h3]; exact fun z => nomatch z
      · exact (aok.mo (e12.trans e3)) b hb
    refine q_setP (j := place.toNat) (P := RpG K (pf :: Al) fun d => boundedB d (-99) 99 = false ∧ SmD 1 d) h3 (g_pick (n := 10) (ag_cons (g_int ev_c ⟨by decide, by decide, rfl⟩) (ag_cons (g_int (ev_un ev_c ru_neg) ⟨by decide, by decide, rfl⟩) (ag_cons (g_bl ev_c ⟨rfl, by decide, rfl⟩) (ag_cons (g_non ev_c ⟨rfl, by decide, rfl⟩) (ag_cons (g_str ev_c ⟨rfl, by decide, rfl⟩)
      (ag_cons (g_lst aok3 (ra_cons (G := fun d => d = .int 1) (g_int ev_c rfl) ra_nil) (fun ds hd => by obtain ⟨d, es, rfl, rfl, rfl⟩ := hd; decide) fun ds hd => by obtain ⟨d, es, rfl, rfl, rfl⟩ := hd; exact ⟨rfl, by decide, rfl⟩)
      (ag_cons (g_int (ev_pow ev_c ev_c ⟨by decide, by decide, by decide⟩) ⟨by decide +kernel, by decide, rfl⟩) (ag_cons (g_bl ev_c ⟨rfl, by decide, rfl⟩) (ag_cons (g_new aok3 fun p => ⟨rfl, Nat.zero_le _, rfl⟩) (ag_cons (g_int (ev_op ev_c (ev_pow ev_c ev_c ⟨by decide, by decide, by decide⟩) rv_I0) ⟨by decide +kernel, by decide, rfl⟩) ag_nil)))))))))) (by decide) (pk rfl) p0 p1)
      (ev_var rfl) (ev_is (ev_var rfl) (by rw [show ((place.toNat : Nat) : Int) = place by omega])) (by show place.toNat < 3; omega) fun v H4 H5 e4 hv e5 => ?_
    obtain ⟨d, ⟨hd1, hd2⟩, hr⟩ := hv.mo e5
    have eq1 : delL (upd H5 pf (.lst ([V.int f, .int g, .int h].set place.toNat v))) (pf :: Al) = delL H5 (pf :: Al) := funext fun b => by
      by_cases z : b ∈ pf :: Al
      · rw [delL_in z, delL_in z]
      · rw [delL_out z, delL_out z, upd_ne fun e => z (by rw [e]; exact List.mem_cons_self)]
    have hr2 : Rp K (delL (upd H5 pf (.lst ([V.int f, .int g, .int h].set place.toNat v))) Al) v d := by
      rw [← eq1] at hr
      exact hr.mo (ex_delL_sub fun b hb => List.mem_cons_of_mem _ hb)
    have e05 : Ex H (upd H5 pf (.lst ([V.int f, .int g, .int h].set place.toNat v))) := Ex.mut (((e12.trans e3).trans e4).trans e5) hpf
    have hpf5 : (upd H5 pf (.lst ([V.int f, .int g, .int h].set place.toNat v))) pf = some (.lst ([V.int f, .int g, .int h].set place.toNat v)) := upd_same
    generalize upd H5 pf (.lst ([V.int f, .int g, .int h].set place.toNat v)) = H6 at hr2 e05 hpf5 ⊢
    have hls : LsG K Al (fun ds => ds = [Py.int f, .int g, .int h].set place.toNat d) (.ref pf) H6 := ⟨pf, _, rfl, hpf5, aok.out hpf, _, RpAll.put hr2 _ (RpAll.ints [f, g, h]), rfl⟩
    have pl3 : place.toNat = 0 ∨ place.toNat = 1 ∨ place.toNat = 2 := by omega
    refine s_retP (g_lst (G := BadS 4) (aok.mo e05) (ra_cons (G := fun x => x = .str "is") (g_str ev_c rfl) (ra_cons (G := fun x => x = .lst ([Py.int f, .int g, .int h].set place.toNat d)) (g_var rfl (hls.rp fun ds hd => by rw [hd])) (ra_cons (G := fun x => x = .int r) (g_int (ix e05 rfl rfl) rfl) (ra_cons (G := fun x => x = .int m) (g_int (ev_var rfl) rfl) ra_nil))))
      (fun ds hd => by obtain ⟨_, _, rfl, rfl, _, _, rfl, rfl, _, _, rfl, rfl, _, _, rfl, rfl, rfl⟩ := hd; show 4 ≤ 100000; decide)
      fun ds hd => by
        obtain ⟨_, _, rfl, rfl, _, _, rfl, rfl, _, _, rfl, rfl, _, _, rfl, rfl, rfl⟩ := hd
        refine ⟨bad_is (rightIs_fac (fac_set (by show place.toNat < 3; omega) hd1)), ?_, ?_⟩
        · have hd2' := hd2.1
          rcases pl3 with e | e | e <;> rw [e]
          · show max 0 (max (max d.dep (max 0 (max 0 0)) + 1) (max 0 (max 0 0))) + 1 ≤ 4
            omega
          · show max 0 (max (max 0 (max d.dep (max 0 0)) + 1) (max 0 (max 0 0))) + 1 ≤ 4
            omega
          · show max 0 (max (max 0 (max 0 (max d.dep 0)) + 1) (max 0 (max 0 0))) + 1 ≤ 4
            omega
        · have ht := hd2.2
          rcases pl3 with e | e | e <;> rw [e] <;> simp [Py.thin, Py.thins, ht]) fun v H7 e7 hv => q v _ (e05.trans e7) hv
  have h3 := e3 _ _ h2
  have e13 := e12.trans e3
  have aok3 : AlOk H3 Al := aok.mo e13
  have hfac : LsG K Al (fun ds => ds = [Py.int f, .int g, .int h]) (.ref pf) H3 := ⟨pf, _, rfl, h3, aok.out hpf, _, RpAll.ints [f, g, h], rfl⟩
  have fin : ∀ {H7 : Hp} {σ : L2.St} {te tm tr : TE} {G1 G2 G3 : Py → Prop}, Ex H H7 → EvP te σ H7 (RpG K Al G1) → EvP tr σ H7 (RpG K Al G2) → EvP tm σ H7 (RpG K Al G3) → (∀ e r m, G1 e → G2 r → G3 m → rightIs e r m = false ∧ SmD 2 e ∧ SmD 2 r ∧ SmD 2 m) →
      tRet (tLst (tCons (tC (.str "is")) (tCons te (tCons tr (tCons tm tNil))))) { nx := fun _ H' => Q .non H', rt := Q } σ H7 := fun {H7 σ te tm tr G1 G2 G3} e7 h1 h2 h3 k => by
    refine s_retP (g_lst (G := BadS 4) (aok.mo e7) (ra_cons (G := fun x => x = .str "is") (g_str ev_c rfl) (ra_cons h1 (ra_cons h2 (ra_cons h3 ra_nil)))) (fun ds hd => by obtain ⟨_, _, rfl, rfl, _, _, rfl, _, _, _, rfl, _, _, _, rfl, _, rfl⟩ := hd; show 4 ≤ 100000; decide) fun ds hd => ?_) fun v H8 e8 hv => q v _ (e7.trans e8) hv
    obtain ⟨_, _, rfl, rfl, e, _, rfl, g1, r, _, rfl, g2, m, _, rfl, g3, rfl⟩ := hd
    obtain ⟨k1, k2, k3, k4⟩ := k e r m g1 g2 g3
    refine ⟨bad_is k1, ?_, ?_⟩
    · have := k2.1
      have := k3.1
      have := k4.1
      show max 0 (max e.dep (max r.dep (max m.dep 0))) + 1 ≤ 4
      omega
    · have := k2.2
      have := k3.2
      have := k4.2
      simp [Py.thin, Py.thins, *]
  have one_int : ∀ {H7 : Hp} {σ : L2.St} {i : Int}, AlOk H7 Al → EvP (tLst (tCons (tC (.int i)) tNil)) σ H7 (RpG K Al fun d => d = .lst [.int i]) := fun ok => g_lst ok (ra_cons (G := fun d => d = .int _) (g_int ev_c rfl) ra_nil) (fun ds hd => by obtain ⟨d, es, rfl, rfl, rfl⟩ := hd; show 1 ≤ 100000; decide) fun ds hd => by obtain ⟨d, es, rfl, rfl, rfl⟩ := hd; rfl
  refine q_when (et_test (ev_intEq (ev_var rfl) ev_c)) (fun hb1 H4 e4 => ?_) fun hb1 H4 e4 => ?_
  · have aok4 := aok3.mo e4
    have h4 := e4 _ _ h3
    refine q_asgP (g_head (n := 2) aok4 rfl (sq_of h4) (RpAll.ints [f, g, h]) ev_c rfl (by show 2 ≤ 3; decide)) fun v H5 e5 htwo => ?_
    have aok5 := aok4.mo e5
    have hf5 := (hfac.mo e4).mo e5
    have htwo2 : RpG K Al (fun d => d = .lst [.int f, .int g]) v H5 := htwo.rp fun ds hd => by rw [hd] <;> rfl
    refine q_asgLP (R := AllG K Al 10 fun e => (∀ r m, rightIs e r m = false) ∧ SmD 2 e) (ag_cons (g_var rfl (htwo2.imp fun d hd => by rw [hd]; exact ⟨fun r m => rightIs_len (by show ¬ 2 = 3; decide), by show 1 ≤ 2; decide, rfl⟩))
      (ag_cons ((g_cat aok5 (g_lvar rfl hf5) (g_lit aok5 (ra_cons (G := fun d => d = .int 1) (g_int ev_c rfl) ra_nil) fun ds hd => by obtain ⟨d, es, rfl, rfl, rfl⟩ := hd; show 1 ≤ 100000; decide) (fun ds es h1 h2 => by obtain ⟨d, fs, rfl, rfl, rfl⟩ := h2; rw [h1]; show 3 + 1 ≤ 100000; decide)).sub fun v H hv => hv.rp fun ds hd => by
        obtain ⟨es, fs, rfl, rfl, d, gs, rfl, rfl, rfl⟩ := hd
        exact ⟨fun r m => rightIs_len (by show ¬ 4 = 3; decide), by show 1 ≤ 2; decide, rfl⟩)
      (ag_cons (g_lst aok5 ra_nil (fun ds hd => by rw [hd]; exact Nat.zero_le _) fun ds hd => by rw [hd]; exact ⟨fun r m => rightIs_len (by decide), by decide, rfl⟩)
      (ag_cons (g_int ev_c ⟨fun r m => rfl, by decide, rfl⟩) (ag_cons (g_str ev_c ⟨fun r m => rfl, by decide, rfl⟩) (ag_cons (g_non ev_c ⟨fun r m => rfl, by decide, rfl⟩)
      (ag_cons (g_disp (n := 3) aok5 (eps_cons ev_c (evp_ev ev_c fun _ _ => trivial) (eps_cons ev_c (evp_ev ev_c fun _ _ => trivial) (eps_cons ev_c (evp_ev ev_c fun _ _ => trivial) eps_nil))) (by decide) fun p => ⟨fun r m => rfl, Nat.zero_le _, rfl⟩)
      (ag_cons (g_lst aok5 (ra_cons (G := fun d => d = .lst [.int f, .int g]) (g_var rfl htwo2) (ra_cons (G := fun d => d = .int 1) (g_int ev_c rfl) (ra_cons (G := fun d => d = .int 2) (g_int ev_c rfl) ra_nil))) (fun ds hd => by obtain ⟨_, _, rfl, _, _, _, rfl, _, _, _, rfl, _, rfl⟩ := hd; show 3 ≤ 100000; decide) fun ds hd => by
        obtain ⟨_, _, rfl, rfl, _, _, rfl, rfl, _, _, rfl, rfl, rfl⟩ := hd
        exact ⟨fun r m => rightIs_fac rfl, by show 2 ≤ 2; decide, rfl⟩)
      (ag_cons (g_lst aok5 (ra_cons (G := fun d => d = .lst [.int f, .int g, .int h]) (g_var rfl (hf5.rp fun ds hd => by rw [hd])) ra_nil) (fun ds hd => by obtain ⟨_, _, rfl, _, rfl⟩ := hd; show 1 ≤ 100000; decide) fun ds hd => by
        obtain ⟨_, _, rfl, rfl, rfl⟩ := hd
        exact ⟨fun r m => rightIs_len (by show ¬ 1 = 3; decide), by show 2 ≤ 2; decide, rfl⟩)
      (ag_cons (g_bl ev_c ⟨fun r m => rfl, by decide, rfl⟩) ag_nil)))))))))) (fun vs H1 hv => by rw [hv.1]; decide) fun po vs H6 e6 hvs hpo => ?_
    have e16 := ((e13.trans e4).trans e5).trans e6
    have e17 := e16.trans (Ex.new (o := .lst vs) hpo)
    refine fin e17 (g_pickV (p := po) rfl upd_same (hvs.mo (Ex.new hpo)) (pk rfl) p0 p1) (g_int (G := fun d => d = .int r) (ix e17 rfl rfl) rfl) (g_int (G := fun d => d = .int m) (ev_var rfl) rfl) fun e r2 m2 g1 g2 g3 => ?_
    rw [g2, g3]
    exact ⟨g1.1 _ _, g1.2, ⟨Nat.zero_le _, rfl⟩, ⟨Nat.zero_le _, rfl⟩⟩
  · have aok4 := aok3.mo e4
    have e14 := e13.trans e4
    refine q_when (et_test (ev_intEq (ev_var rfl) ev_c)) (fun hb2 H5 e5 => ?_) fun hb2 H5 e5 => ?_
    · have aok5 := aok4.mo e5
      refine fin (e14.trans e5) (G1 := fun d => d = .lst [.int f, .int g, .int h]) (g_var rfl (((hfac.mo e4).mo e5).rp fun ds hd => by rw [hd])) (g_int (G := fun d => d = .int r) (ix (e14.trans e5) rfl rfl) rfl)
        (g_pick (n := 10) (G := fun d => (∀ r, modB r d = false) ∧ SmD 1 d) (ag_cons (g_int ev_c ⟨mod_big (by decide), by decide, rfl⟩) (ag_cons (g_int ev_c ⟨mod_big (by decide), by decide, rfl⟩) (ag_cons (g_int (ev_un ev_c ru_neg) ⟨mod_big (by decide), by decide, rfl⟩) (ag_cons (g_bl ev_c ⟨fun r => rfl, by decide, rfl⟩) (ag_cons (g_non ev_c ⟨fun r => rfl, by decide, rfl⟩)
          (ag_cons (g_str ev_c ⟨fun r => rfl, by decide, rfl⟩) (ag_cons (g_int (ev_pow ev_c ev_c ⟨by decide, by decide, by decide⟩) ⟨mod_big (by decide +kernel), by decide, rfl⟩) (ag_cons ((one_int aok5).sub fun v H hv => hv.imp fun d hd => by rw [hd]; exact ⟨fun r => rfl, by show 1 ≤ 1; decide, rfl⟩)
          (ag_cons (g_int ev_c ⟨mod_big (by decide), by decide, rfl⟩) (ag_cons (g_int (ev_un ev_c ru_neg) ⟨mod_big (by decide), by decide, rfl⟩) ag_nil)))))))))) (by decide) (pk rfl) p0 p1) fun e r2 m2 g1 g2 g3 => ?_
      rw [g1, g2]
      exact ⟨rightIs_mod (g3.1 _), ⟨by show 1 ≤ 2; decide, rfl⟩, ⟨Nat.zero_le _, rfl⟩, ⟨Nat.le_succ_of_le g3.2.1, g3.2.2⟩⟩
    · have aok5 := aok4.mo e5
      refine fin (e14.trans e5) (G1 := fun d => d = .lst [.int f, .int g, .int h]) (g_var rfl (((hfac.mo e4).mo e5).rp fun ds hd => by rw [hd]))
        (g_pick (n := 10) (G := fun d => boundedB d 0 (m - 1) = false ∧ SmD 1 d) (ag_cons (g_int (ev_var rfl) ⟨bnd_out (by omega), Nat.zero_le _, rfl⟩) (ag_cons (g_int (ev_un ev_c ru_neg) ⟨bnd_out (by omega), by decide, rfl⟩) (ag_cons (g_bl ev_c ⟨rfl, by decide, rfl⟩) (ag_cons (g_non ev_c ⟨rfl, by decide, rfl⟩) (ag_cons (g_str ev_c ⟨rfl, by decide, rfl⟩)
          (ag_cons (g_int (ev_op (ev_var rfl) ev_c rv_I0) ⟨bnd_out (by omega), Nat.zero_le _, rfl⟩) (ag_cons (g_bl ev_c ⟨rfl, by decide, rfl⟩) (ag_cons ((one_int aok5).sub fun v H hv => hv.imp fun d hd => by rw [hd]; exact ⟨rfl, by show 1 ≤ 1; decide, rfl⟩)
          (ag_cons (g_int (ev_un (ev_var rfl) ru_neg) ⟨bnd_out (by omega), Nat.zero_le _, rfl⟩) (ag_cons (g_int (ev_pow ev_c ev_c ⟨by decide, by decide, by decide⟩) ⟨bnd_out (.inr (by rw [show (10 : Int) ^ (19 : Int).toNat = 10000000000000000000 by decide +kernel]; omega)), by decide, rfl⟩) ag_nil)))))))))) (by decide) (pk rfl) p0 p1) (g_int (G := fun d => d = .int m) (ev_var rfl) rfl) fun e r2 m2 g1 g2 g3 => ?_
      rw [g1, g3]
      exact ⟨rightIs_mod (mod_rest g2.1), ⟨by show 1 ≤ 2; decide, rfl⟩, ⟨Nat.le_succ_of_le g2.2.1, g2.2.2⟩, ⟨Nat.zero_le _, rfl⟩⟩
end
end Kf

set_option Elab.async false
set_option linter.all false
set_option maxRecDepth 100000
set_option maxHeartbeats 4000000
namespace Kf
open PySem L2 Evl
theorem right_len {w : Str} {r : List Py} (h : arity w ≠ some (r.length + 1)) : rightB (.str w :: r) = false := if_neg h
theorem arity_cases {w : Str} {k : Nat} (h : arity w = some k) : (w = "is" ∧ k = 4) ∨ (w ≠ "is" ∧ (k = 2 ∨ k = 3)) := by
  unfold arity at h
  split at h
  · exact .inl ⟨by assumption, (Option.some.inj h).symm⟩
  · refine .inr ⟨by assumption, ?_⟩
    split at h
    · exact .inl (Option.some.inj h).symm
    · split at h
      · exact .inr (Option.some.inj h).symm
      · split at h
        · exact .inr (Option.some.inj h).symm
        · cases h
def names4 : List (Str × Int) := [("is", 4), ("not", 2), ("and", 3), ("or", 3)]
def othersN (n : Int) (l : List (Str × Int)) : List Str := (l.filter fun p => !decide (p.2 = n)).map (·.1)
theorem others_snoc {n : Int} {l : List (Str × Int)} {p : Str × Int} : othersN n (l ++ [p]) = othersN n l ++ (if p.2 = n then [] else [p.1]) := by
  unfold othersN
  rw [List.filter_append, List.map_append]
  congr 1
  by_cases h : p.2 = n
  · rw [if_pos h]; simp [h]
  · rw [if_neg h]; simp [h]
theorem others_ok {n : Nat} (h : n = 2 ∨ n = 3 ∨ n = 4) : othersN (n : Int) names4 ≠ [] ∧ ∀ w ∈ othersN (n : Int) names4, arity w ≠ some n := by
  rcases h with rfl | rfl | rfl <;> decide +kernel
/-- a node of a tree, where it stands -/
def NodeAt (K : PySem.W.Frag) (H : Hp) (Al : List Addr) (a : Addr) (es : List Py) : Prop := ∃ xs w rest, H a = some (.lst xs) ∧ a ∉ Al ∧ RpAll K (delL H Al) xs es ∧ es = .str w :: rest ∧ arity w = some (rest.length + 1) ∧ Py.thins es = true ∧
  (w = "is" → ∃ b f g h r m, xs = [.str "is", .ref b, .int r, .int m] ∧ H b = some (.lst [.int f, .int g, .int h]) ∧ LeafOk f g h r m ∧ 1 ≤ Py.deps es)
def spBad (K : PySem.W.Frag) : Sp := fun vs H Q _ => ∃ (a pd : Addr) (ds : List Int) (Al : List Addr) (es : List Py), vs = [.ref a, .ref pd] ∧ NodeAt K H Al a es ∧ H pd = some (.lst (ds.map V.int)) ∧ DigOk [2520, 30, 30, 3] ds ∧ AlOk H Al ∧ ∀ v H', Ex H H' → RpG K Al (BadS (Py.deps es + 3)) v H' → Q v H'
section
variable {K : PySem.W.Frag} {σ : L2.St} {H H' : Hp} {Al : List Addr} {tr : TA} {g : TG} {tu tz : TS} {D : Ends}
theorem sv_badIs {a b : Addr} {kind pick place f g h r m : Int} (ha : H a = some (.lst [.str "is", .ref b, .int r, .int m])) (hb : H b = some (.lst [.int f, .int g, .int h])) (lok : LeafOk f g h r m) (hk : 0 ≤ kind ∧ kind ≤ 3) (hp : 0 ≤ pick) (hl : 0 ≤ place ∧ place ≤ 2) (ok : AlOk H Al) :
    SpP (spBadIs K) [.ref a, .int kind, .int pick, .int place] H (RpG K Al (BadS 4)) := fun H1 e Q q E => ⟨a, b, kind, pick, place, f, g, h, r, m, Al, rfl, e _ _ ha, e _ _ hb, lok, hk, hp, hl, ok.mo e, q⟩
def NamAt (K : PySem.W.Frag) (H : Hp) (v : V) (p : Str × Int) : Prop := ∃ t, v = .ref t ∧ SqT K H t [.str p.1, .int p.2]
theorem eab_nil : EvAP tNil σ H fun vs H1 => Both (NamAt K H1) vs [] := fun H1 _ Q q => q [] H1 (Ex.refl H1) trivial
theorem eab_cons {n : Str} {k : Int} {ps : List (Str × Int)} (hr : EvAP tr σ H fun vs H1 => Both (NamAt K H1) vs ps) : EvAP (tCons (tTup (tCons (tC (.str n)) (tCons (tC (.int k)) tNil))) tr) σ H fun vs H1 => Both (NamAt K H1) vs ((n, k) :: ps) := fun H1 a Q q =>
  eu_tup (ea_cons ev_c (ea_cons ev_c ea_nil)) (by show 2 ≤ 100000; decide) H1 a _ fun t H2 ht a2 h2 => hr H2 (a.trans a2) _ fun vs H3 a3 hv => q _ H3 (a2.trans a3) ⟨⟨t, rfl, ex_t a3 (st_of h2)⟩, hv⟩
theorem q_forNP {R : List V → Hp → Prop} (h : EvAP tr σ H R) (hz : ∀ vs H1, R vs H1 → vs.length ≤ 100000) (k : ∀ p vs H1, Ex H H1 → R vs H1 → H1 p = none → ∃ Pv : Nat → L2.St → Hp → Prop, Pv 0 σ (upd H1 p (.lst vs)) ∧ (∀ i σ' H', i ≤ vs.length → Pv i σ' H' → SqL K H' p vs) ∧
    (∀ i x σ' H', vs[i]? = some x → Pv i σ' H' → g x σ' H' fun σ2 H2 => tu { D with nx := Pv (i + 1), ct := Pv (i + 1), bk := tz D } σ2 H2) ∧ ∀ σ' H', Pv vs.length σ' H' → tz D σ' H') : tSeq (tFor (iList K (tLst tr)) g tu) tz D σ H := by
  refine h H (Ex.refl H) _ fun vs H1 e r => ⟨sz_of (hz vs H1 r), fun p hp => ?_⟩
  obtain ⟨Pv, h0, hl, hs, hd⟩ := k p vs H1 e r hp
  exact ⟨p, rfl, ⟨vs, sq_of upd_same⟩, for_list Pv h0 hl hs hd⟩
end
theorem mem_deps : ∀ {ds : List Py} {d : Py}, d ∈ ds → d.dep ≤ Py.deps ds
  | e :: ds, d, h => by
    rcases List.mem_cons.mp h with rfl | h
    · exact Nat.le_max_left _ _
    · exact Nat.le_trans (mem_deps h) (Nat.le_max_right _ _)
theorem mem_thins : ∀ {ds : List Py} {d : Py}, Py.thins ds = true → d ∈ ds → d.thin = true
  | e :: ds, d, ht, h => by
    have k := Bool.and_eq_true_iff.mp (show (e.thin && Py.thins ds) = true from ht)
    rcases List.mem_cons.mp h with rfl | h
    · exact k.1
    · exact mem_thins k.2 h
theorem sm_list {n : Nat} : ∀ {ds : List Py}, (∀ d ∈ ds, SmD n d) → Py.deps ds ≤ n ∧ Py.thins ds = true
  | [], _ => ⟨Nat.zero_le _, rfl⟩
  | e :: ds, h => by
    have k := sm_list (n := n) (ds := ds) fun d hd => h d (List.mem_cons_of_mem _ hd)
    have k2 := h e List.mem_cons_self
    exact ⟨Nat.max_le.mpr ⟨k2.1, k.1⟩, by show (e.thin && Py.thins ds) = true; rw [k2.2, k.2] <;> rfl⟩
theorem sm_lst {n : Nat} {ds : List Py} (h : ∀ d ∈ ds, SmD n d) (hl : ds.length ≤ 1000) : SmD (n + 1) (.lst ds) := by
  have k := sm_list h
  exact ⟨Nat.succ_le_succ k.1, by show (decide (ds.length ≤ 1000) && Py.thins ds) = true; rw [decide_eq_true hl, k.2] <;> rfl⟩
theorem bad_none {d : Py} (h : d.seq = none) : BadD d := fun ds hd => by rw [h] at hd; cases hd
theorem bad_lst {ds : List Py} (h : rightB ds = false) : BadD (.lst ds) := fun es he => by
  cases (Option.some.inj he)
  exact h
theorem word_no {w : Str} (h : arity w = none) (r : List Py) : rightB (.str w :: r) = false := right_len (by rw [h]; exact fun z => nomatch z)
section
variable {P : Program} {w : World} {K : PySem.W.Frag} {mg : Str → Option Value} {base : Heap} {H : Hp}
abbrev sLawBad : Stmt := top 40
theorem scLawBad : FnScope ["node", "digits", "pick", "kind", "whole_v", "odd", "others", "name", "many"] ["node", "digits"] (defScope sLawBad) := ⟨rfl, rfl, rfl, by decide +kernel, rfl, by decide +kernel, by decide +kernel⟩
theorem df_bad (B : Bi mg) (DLawBadIs : Df P w K mg base CX0 "_law_bad_is" 1 ["node", "kind", "pick", "place"] (spBadIs K)) (S : At K mg "_law_bad" sLawBad ["node", "digits"]) : Df P w K mg base CX0 "_law_bad" 2 ["node", "digits"] (spBad K) := by
  obtain ⟨f0, fd, F, mm, b0⟩ := S
  refine ⟨f0, fd, mm, F.kp, b0, F.ok scLawBad (fun vs H Q E h => ?_) (fun cdv A outer s H vs Q E hr h => ?_)⟩
  · obtain ⟨a, pd, ds, Al, es, rfl, _⟩ := h
    rfl
  obtain ⟨a, pd, ds, Al, es, rfl, ⟨xs, wd, rest, ha, hna, hra, rfl, hw, hth, hleaf⟩, hpd, dok, aok, q⟩ := h
  refine ⟨_, (pss_cons (ps_set (i := 2) scLawBad.nd rfl (Or.inl rfl) (pe_callTy call_int1 rfl B.int PyProof.Rows.boot_int (pa_cons (pe_ix ix_list (pv 1) pe_int (fun _ _ => rfl)) pa_nil)))
  (pss_cons (ps_set (i := 3) scLawBad.nd rfl (Or.inl rfl) (pe_op op_mod (pe_callTy call_int1 rfl B.int PyProof.Rows.boot_int (pa_cons (pe_ix ix_list (pv 1) pe_int (fun _ _ => rfl)) pa_nil)) pe_int))
  (pss_cut (ps_if (pt_cmpR op_eq (pe_ix ix_list (pv 0) pe_int (fun _ _ => rfl)) pe_str (nomark _)) (pss_one (ps_set (i := 3) scLawBad.nd rfl (Or.inl rfl) (pe_op op_mod (pe_callTy call_int1 rfl B.int PyProof.Rows.boot_int (pa_cons (pe_ix ix_list (pv 1) pe_int (fun _ _ => rfl)) pa_nil)) pe_int))) pss_nil)
  (pss_cons (ps_if (pt_cmpR op_gt (pv 3) pe_int (nomark _)) (pss_one (ps_ret (pe_df DLawBadIs hr pass0 (pa_cons (pv 0) (pa_cons (pe_op op_sub (pv 3) pe_int) (pa_cons (pv 2) (pa_cons (pe_ix ix_list (pv 1) pe_int (fun _ _ => rfl)) pa_nil))))))) pss_nil)
  (pss_cons (ps_if (pt_cmpR op_eq (pv 3) pe_int (nomark _)) (pss_cons (ps_set (i := 4) scLawBad.nd rfl (Or.inl rfl) (pe_disp (pps_cons pe_int pe_str (pps_cons pe_int (pe_tup (pa_cons pe_int (pa_cons pe_int (pa_cons pe_int pa_nil)))) (pps_cons pe_int pe_int (pps_cons pe_int pe_int pps_nil)))) (by rfl) (by rfl) (fun z => by cases z) (by decide)))
  (pss_cons (ps_set (i := 5) scLawBad.nd rfl (Or.inl rfl) (pe_lst (pa_cons pe_non (pa_cons pe_int (pa_cons pe_int (pa_cons pe_bl (pa_cons pe_bl (pa_cons pe_str (pa_cons pe_str (pa_cons pe_str (pa_cons pe_str (pa_cons (pe_lst pa_nil) (pa_cons pe_dnewK (pa_cons (pe_lst (pa_cons (pe_lst pa_nil) pa_nil)) (pa_cons (pe_lst (pa_cons pe_non pa_nil)) (pa_cons (pv 4) (pa_cons pe_str pa_nil)))))))))))))))))
  (pss_one (ps_ret (pe_ix ix_list (pv 5) (pe_op op_mod (pv 2) pe_int) (fun _ _ => rfl)))))) pss_nil)
  (pss_cons (ps_if (pt_cmpR op_eq (pv 3) pe_int (nomark _)) (pss_cons (ps_set (i := 5) scLawBad.nd rfl (Or.inl rfl) (pe_lst (pa_cons pe_str (pa_cons pe_str (pa_cons pe_str (pa_cons pe_str (pa_cons pe_str (pa_cons pe_str (pa_cons pe_str (pa_cons pe_int (pa_cons pe_non (pa_cons pe_bl (pa_cons (pe_lst (pa_cons pe_str pa_nil)) (pa_cons pe_dnewK (pa_cons (pe_tup (pa_cons pe_str pa_nil)) (pa_cons pe_str (pa_cons pe_int pa_nil)))))))))))))))))
  (pss_one (ps_ret (pe_op op_cat (pe_lst (pa_cons (pe_ix ix_list (pv 5) (pe_op op_mod (pv 2) pe_int) (fun _ _ => rfl)) pa_nil)) (pe_slice sl_list (pv 0) (po_some pe_int) po_none))))) pss_nil)
  (pss_cons (ps_if (pt_cmpR op_eq (pv 3) pe_int (nomark _)) (pss_one (ps_ret (pe_slice sl_list (pv 0) po_none (po_some (pe_op op_sub (pe_callB call_len_seq rfl B.len PySem.boot_len (pa_cons (pv 0) pa_nil)) pe_int))))) pss_nil)
  (pss_cons (ps_if (pt_cmpR op_eq (pv 3) pe_int (nomark _)) (pss_one (ps_ret (pe_op op_cat (pv 0) (pe_lst (pa_cons (pe_ix ix_list (pv 0) (pe_op op_sub (pe_callB call_len_seq rfl B.len PySem.boot_len (pa_cons (pv 0) pa_nil)) pe_int) (fun _ _ => rfl)) pa_nil))))) pss_nil)
  (pss_cons (ps_if (pt_cmpR op_eq (pv 3) pe_int (nomark _)) (pss_one (ps_ret (pe_lst (pa_cons (pe_ix ix_list (pv 0) pe_int (fun _ _ => rfl)) pa_nil)))) pss_nil)
  (pss_cons (ps_set (i := 6) scLawBad.nd rfl (Or.inl rfl) (pe_lst pa_nil))
  (pss_cons (ps_for PassesOwn.never rfl (pi_list (pe_lst (pa_cons (pe_tup (pa_cons pe_str (pa_cons pe_int pa_nil))) (pa_cons (pe_tup (pa_cons pe_str (pa_cons pe_int pa_nil))) (pa_cons (pe_tup (pa_cons pe_str (pa_cons pe_int pa_nil))) (pa_cons (pe_tup (pa_cons pe_str (pa_cons pe_int pa_nil))) pa_nil)))))) (pg_tup rfl (pgs_cons (pg_name (i := 7) scLawBad.nd rfl (Or.inl rfl)) (pgs_cons (pg_name (i := 8) scLawBad.nd rfl (Or.inl rfl)) pgs_nil))) (pss_one (ps_if (pt_cmpR op_ne (pv 8) (pe_callB call_len_seq rfl B.len PySem.boot_len (pa_cons (pv 0) pa_nil)) (nomark _)) (pss_one (ps_expr (pe_bm PySem.F.plainAttrs_list PySem.F.slot_list_append PySem.F.type_list_append mt_append (pv 6) (pa_cons (pv 7) pa_nil)))) pss_nil)))
  (pss_one (ps_ret (pe_op op_cat (pe_lst (pa_cons (pe_ix ix_list (pv 6) (pe_op op_mod (pv 2) (pe_callB call_len_seq rfl B.len PySem.boot_len (pa_cons (pv 6) pa_nil))) (fun _ _ => rfl)) pa_nil)) (pe_slice sl_list (pv 0) (po_some pe_int) po_none))))))))))))))), ?_⟩
  have dl : ds.length = 4 := dok.1
  match ds, dl with
  | [d0, d1, d2, d3], _ =>
  have b1 := dok.2 1 30 d1 rfl rfl
  have b2 := dok.2 2 30 d2 rfl rfl
  have b3 := dok.2 3 3 d3 rfl rfl
  have hxl : xs.length = rest.length + 1 := hra.length
  have har := arity_cases hw
  have hdep : Py.deps (.str wd :: rest) = Py.deps rest := Nat.max_eq_right (Nat.zero_le _)
  obtain ⟨x0, xr, hxs⟩ : ∃ x0 xr, xs = x0 :: xr := by
    cases xs with
    | nil => exact absurd hxl (by show ¬ 0 = _ + 1; omega)
    | cons x r => exact ⟨x, r, rfl⟩
  have hx0 : x0 = .str wd := by
    subst hxs
    cases hra with
    | cons h1 _ => cases h1; rfl
  have hat0 : atI xs 0 = some (.str wd) := by rw [hxs, hx0]; exact atI_zero _ _
  have dg : ∀ {H' : Hp} {j : Int} {v : V} {σ : L2.St}, Ex H H' → σ[1]? = some (some (.ref pd)) → atI [V.int d0, .int d1, .int d2, .int d3] j = some v → Ev (tOp (rIxL K) (tVar 1) (tC (.int j))) σ H' v := fun e hs h => ev_op (ev_var hs) ev_c (rv_ixL (sq_of (e _ _ hpd)) h)
  have nd0 : ∀ {H' : Hp} {σ : L2.St}, Ex H H' → σ[0]? = some (some (.ref a)) → Ev (tOp (rIxL K) (tVar 0) (tC (.int 0))) σ H' (.str wd) := fun e hs => ev_op (ev_var hs) ev_c (rv_ixL (sq_of (e _ _ ha)) hat0)
  have ln : ∀ {H' : Hp} {σ : L2.St}, Ex H H' → σ[0]? = some (some (.ref a)) → Ev (tCB (rLenS K) (tCons (tVar 0) tNil)) σ H' (.int (xs.length : Int)) := fun e hs => ev_lenQ (ev_var hs) (.inl (sq_of (e _ _ ha)))
  have rest_thin : Py.thins rest = true := (Bool.and_eq_true_iff.mp (show ((Py.str wd).thin && Py.thins rest) = true from hth)).2
  have small : rest.length ≤ 3 := by rcases har with ⟨_, h⟩ | ⟨_, h | h⟩ <;> omega
  have big : 1 ≤ rest.length := by rcases har with ⟨_, h⟩ | ⟨_, h | h⟩ <;> omega
  refine q_asg (ev_int (dg (Ex.refl H) rfl rfl)) fun H1 e1 => ?_
  refine q_asg (ev_mod (ev_int (dg e1 rfl rfl)) ev_c (by decide)) fun H2 e2 => ?_
  refine q_cut (M := fun σ' H' => ∃ kind : Int, σ' = [some (.ref a), some (.ref pd), some (.int d2), some (.int kind), none, none, none, none, none] ∧ 0 ≤ kind ∧ kind < 10 ∧ (5 < kind → wd = "is") ∧ Ex H H') ?_ ?_
  · refine s_when (et_test (ev_strEq (nd0 (e1.trans e2) rfl) ev_c)) (fun hb H3 e3 => ?_) fun hb H3 e3 => ⟨_, rfl, Int.emod_nonneg _ (by decide), by have := Int.emod_lt_of_pos d1 (show (0 : Int) < 6 by decide); omega, fun z => absurd (Int.emod_lt_of_pos d1 (show (0 : Int) < 6 by decide)) (by omega), (e1.trans e2).trans e3⟩
    exact s_asg (ev_mod (ev_int (dg ((e1.trans e2).trans e3) rfl rfl)) ev_c (by decide)) fun H4 e4 => ⟨_, rfl, Int.emod_nonneg _ (by decide), Int.emod_lt_of_pos d1 (by decide), fun _ => of_decide_eq_true hb, ((e1.trans e2).trans e3).trans e4⟩
  rintro σ3 H3 ⟨kind, rfl, k0, k9, kis, e3⟩
  refine q_when (et_test (ev_op (ev_var rfl) ev_c rv_I0)) (fun hb H4 e4 => ?_) fun hb H4 e4 => ?_
  · have hk := of_decide_eq_true hb
    obtain ⟨b, f, g, h, r, m, rfl, hbb, lok, h2⟩ := hleaf (kis hk)
    refine s_retP (evp_call (ea_cons (ev_var rfl) (ea_cons (ev_op (ev_var rfl) ev_c rv_I0) (ea_cons (ev_var rfl) (ea_cons (dg (e3.trans e4) rfl rfl) ea_nil)))) (sv_badIs (Al := Al) ((e3.trans e4) _ _ ha) ((e3.trans e4) _ _ hbb) lok (by omega) b2.1 (by omega) (aok.mo (e3.trans e4)))) fun v H5 e5 hv => q v _ ((e3.trans e4).trans e5) (hv.imp fun d hd => ?_)
    refine ⟨hd.1, ?_, hd.2.2⟩
    have h1 := hd.2.1
    omega
  have e04 := e3.trans e4
  have pk : ∀ {H' : Hp} {σ : L2.St} {n : Int}, 0 < n → σ[2]? = some (some (.int d2)) → Ev (tOp (rI (fun _ j => 0 < j) fun i j => .int (i % j)) (tVar 2) (tC (.int n))) σ H' (.int (d2 % n)) := fun h hs => ev_mod (ev_var hs) ev_c h
  have ok4 := aok.mo e04
  have hr4 : ∀ {H' : Hp}, Ex H H' → RpAll K (delL H' Al) xs (.str wd :: rest) := fun e => hra.mo (ex_delL e)
  have smr : ∀ d ∈ rest, SmD (Py.deps (.str wd :: rest) + 2) d := fun d hd => ⟨by have := mem_deps hd; omega, mem_thins rest_thin hd⟩
  have nodeV : ∀ {H' : Hp}, Ex H H' → LsG K Al (fun ds => ds = .str wd :: rest) (.ref a) H' := fun e => ⟨a, xs, rfl, e _ _ ha, hna, _, hr4 e, rfl⟩
  have sm0 : ∀ {n : Nat} {d : Py}, SmD 2 d → SmD (n + 2) d := fun h => ⟨by have := h.1; omega, h.2⟩
  have ret : ∀ {H' : Hp} {σ : L2.St} {te : TE} {L : List Py → Prop}, Ex H H' → EvP te σ H' (LsG K Al L) → (∀ ds, L ds → rightB ds = false ∧ (∀ d ∈ ds, SmD (Py.deps (.str wd :: rest) + 2) d) ∧ ds.length ≤ 1000) → tRet te { nx := fun _ H' => Q .non H', rt := Q } σ H' := fun e h k =>
    s_retP h fun v H5 e5 hv => q v _ (e.trans e5) (hv.rp fun ds hd => ⟨bad_lst (k ds hd).1, sm_lst (k ds hd).2.1 (k ds hd).2.2⟩)
  refine q_when (et_test (ev_intEq (ev_var rfl) ev_c)) (fun hb0 H5 e5 => ?_) fun hb0 H5 e5 => ?_
  · have ok5 := ok4.mo e5
    refine q_asgP (P := RpG K Al fun d => BadS 2 d) (g_disp (n := 4) ok5 (eps_cons ev_c (evp_ev ev_c fun _ _ => trivial) (eps_cons ev_c ((evp_U (P := fun _ _ => True) (eu_tup (ea_cons ev_c (ea_cons ev_c (ea_cons ev_c ea_nil))) (by show 3 ≤ 100000; decide)) fun _ _ _ _ => trivial)) (eps_cons ev_c (evp_ev ev_c fun _ _ => trivial) (eps_cons ev_c (evp_ev ev_c fun _ _ => trivial) eps_nil)))) (by decide) fun p => ⟨bad_none rfl, Nat.zero_le _, rfl⟩) fun v6 H6 e6 hv6 => ?_
    have ok6 := ok5.mo e6
    refine q_asgLP (R := AllG K Al 15 (BadS 2)) (ag_cons (g_non ev_c ⟨bad_none rfl, by decide, rfl⟩) (ag_cons (g_int ev_c ⟨bad_none rfl, by decide, rfl⟩) (ag_cons (g_int ev_c ⟨bad_none rfl, by decide, rfl⟩) (ag_cons (g_bl ev_c ⟨bad_none rfl, by decide, rfl⟩) (ag_cons (g_bl ev_c ⟨bad_none rfl, by decide, rfl⟩)
      (ag_cons (g_str ev_c ⟨bad_none rfl, by decide, rfl⟩) (ag_cons (g_str ev_c ⟨bad_none rfl, by decide, rfl⟩) (ag_cons (g_str ev_c ⟨bad_none rfl, by decide, rfl⟩) (ag_cons (g_str ev_c ⟨bad_none rfl, by decide, rfl⟩)
      (ag_cons (g_lst ok6 ra_nil (fun ds hd => by rw [hd]; exact Nat.zero_le _) fun ds hd => by rw [hd]; exact ⟨bad_lst rfl, by decide, rfl⟩)
      (ag_cons (g_new ok6 fun p => ⟨bad_none rfl, Nat.zero_le _, rfl⟩)
      (ag_cons (g_lst ok6 (ra_cons (G := fun d => d = .lst []) (g_lst ok6 ra_nil (fun ds hd => by rw [hd]; exact Nat.zero_le _) fun ds hd => by rw [hd]) ra_nil) (fun ds hd => by obtain ⟨_, _, rfl, _, rfl⟩ := hd; show 1 ≤ 100000; decide) fun ds hd => by obtain ⟨_, _, rfl, rfl, rfl⟩ := hd; exact ⟨bad_lst rfl, by decide, rfl⟩)
      (ag_cons (g_lst ok6 (ra_cons (G := fun d => d = .non) (g_non ev_c rfl) ra_nil) (fun ds hd => by obtain ⟨_, _, rfl, _, rfl⟩ := hd; show 1 ≤ 100000; decide) fun ds hd => by obtain ⟨_, _, rfl, rfl, rfl⟩ := hd; exact ⟨bad_lst rfl, by decide, rfl⟩)
      (ag_cons (g_var rfl hv6) (ag_cons (g_str ev_c ⟨bad_none rfl, by decide, rfl⟩) ag_nil))))))))))))))) (fun vs H1 hv => by rw [hv.1]; decide) fun po vs H7 e7 hvs hpo => ?_
    exact s_retP (g_pickV (p := po) rfl upd_same (hvs.mo (Ex.new hpo)) (pk (by decide) rfl) (Int.emod_nonneg _ (by decide)) (Int.emod_lt_of_pos _ (by decide))) fun v H8 e8 hv => q v _ ((((e04.trans e5).trans e6).trans e7).trans ((Ex.new hpo).trans e8)) (hv.imp fun d hd => ⟨hd.1, by have := hd.2.1; omega, hd.2.2⟩)
  have ok5 := ok4.mo e5
  have e05 := e04.trans e5
  refine q_when (et_test (ev_intEq (ev_var rfl) ev_c)) (fun hb1 H6 e6 => ?_) fun hb1 H6 e6 => ?_
  · have ok6 := ok5.mo e6
    refine q_asgLP (R := AllG K Al 15 fun d => (∀ r, rightB (d :: r) = false) ∧ SmD 2 d) (ag_cons (g_str ev_c ⟨word_no (by decide +kernel), by decide, rfl⟩) (ag_cons (g_str ev_c ⟨word_no (by decide +kernel), by decide, rfl⟩) (ag_cons (g_str ev_c ⟨word_no (by decide +kernel), by decide, rfl⟩) (ag_cons (g_str ev_c ⟨word_no (by decide +kernel), by decide, rfl⟩) (ag_cons (g_str ev_c ⟨word_no (by decide +kernel), by decide, rfl⟩)
      (ag_cons (g_str ev_c ⟨word_no (by decide +kernel), by decide, rfl⟩) (ag_cons (g_str ev_c ⟨word_no (by decide +kernel), by decide, rfl⟩) (ag_cons (g_int ev_c ⟨fun r => rfl, by decide, rfl⟩) (ag_cons (g_non ev_c ⟨fun r => rfl, by decide, rfl⟩) (ag_cons (g_bl ev_c ⟨fun r => rfl, by decide, rfl⟩)
      (ag_cons (g_lst ok6 (ra_cons (G := fun d => d = .str "not") (g_str ev_c rfl) ra_nil) (fun ds hd => by obtain ⟨_, _, rfl, _, rfl⟩ := hd; show 1 ≤ 100000; decide) fun ds hd => by obtain ⟨_, _, rfl, rfl, rfl⟩ := hd; exact ⟨fun r => rfl, by show 1 ≤ 2; decide, rfl⟩)
      (ag_cons (g_new ok6 fun p => ⟨fun r => rfl, Nat.zero_le _, rfl⟩)
      (ag_cons (g_tup ok6 (ra_cons (G := fun d => d = .str "is") (g_str ev_c rfl) ra_nil) (fun ds hd => by obtain ⟨_, _, rfl, _, rfl⟩ := hd; show 1 ≤ 100000; decide) fun ds hd => by obtain ⟨_, _, rfl, rfl, rfl⟩ := hd; exact ⟨fun r => rfl, by show 1 ≤ 2; decide, rfl⟩)
      (ag_cons (g_str ev_c ⟨word_no (by decide +kernel), by decide, rfl⟩) (ag_cons (g_int ev_c ⟨fun r => rfl, by decide, rfl⟩) ag_nil))))))))))))))) (fun vs H1 hv => by rw [hv.1]; decide) fun po vs H7 e7 hvs hpo => ?_
    have e07 := ((e05.trans e6).trans e7).trans (Ex.new (o := .lst vs) hpo)
    have ok7 := aok.mo e07
    refine ret e07 (g_cat ok7 (g_lit ok7 (ra_cons (g_pickV (p := po) rfl upd_same (hvs.mo (Ex.new hpo)) (pk (by decide) rfl) (Int.emod_nonneg _ (by decide)) (Int.emod_lt_of_pos _ (by decide))) ra_nil) fun ds hd => by obtain ⟨_, _, rfl, _, rfl⟩ := hd; show 1 ≤ 100000; decide) (g_tail ok7 rfl (sq_of (e07 _ _ ha)) (hr4 e07)) (fun ds es h1 h2 => by
      obtain ⟨_, _, rfl, _, rfl⟩ := h1
      rw [h2]
      show 1 + rest.length ≤ 100000
      omega)) fun ds hd => ?_
    obtain ⟨es, fs, rfl, ⟨d, _, rfl, hg, rfl⟩, hfs⟩ := hd
    have hfs' : fs = rest := hfs
    rw [hfs']
    refine ⟨hg.1 _, fun x hx => ?_, by show rest.length + 1 ≤ 1000; omega⟩
    rcases List.mem_cons.mp hx with rfl | hx
    · exact sm0 hg.2
    · exact smr x hx
  have ok6 := ok5.mo e6
  have e06 := e05.trans e6
  refine q_when (et_test (ev_intEq (ev_var rfl) ev_c)) (fun hb2 H7 e7 => ?_) fun hb2 H7 e7 => ?_
  · have e07 := e06.trans e7
    refine ret e07 (g_head (n := rest.length) (aok.mo e07) rfl (sq_of (e07 _ _ ha)) (hr4 e07) (ev_op (ln e07 rfl) ev_c rv_I0) (by rw [hxl]; omega) (by omega)) fun ds hd => ?_
    obtain ⟨r0, rr, hrr⟩ : ∃ r0 rr, rest = r0 :: rr := by
      cases rest with
      | nil => exact absurd big (by show ¬ 1 ≤ 0; omega)
      | cons x r => exact ⟨x, r, rfl⟩
    have et : ds = .str wd :: rest.take rr.length := by rw [hd, hrr] <;> rfl
    have lt : (rest.take rr.length).length = rr.length := by rw [List.length_take, hrr]; show min rr.length (rr.length + 1) = rr.length; omega
    rw [et]
    refine ⟨right_len (by rw [hw, lt, hrr]; intro z; have := Option.some.inj z; have h9 : rr.length + 1 + 1 = rr.length + 1 := this; omega), fun x hx => ?_, by rw [List.length_cons, lt]; rw [hrr] at small; have h9 : rr.length + 1 ≤ 3 := small; omega⟩
    rcases List.mem_cons.mp hx with rfl | hx
    · exact ⟨Nat.zero_le _, rfl⟩
    · exact smr x (List.mem_of_mem_take hx)
  have e07 := e06.trans e7
  refine q_when (et_test (ev_intEq (ev_var rfl) ev_c)) (fun hb3 H8 e8 => ?_) fun hb3 H8 e8 => ?_
  · have e08 := e07.trans e8
    have ok8 := aok.mo e08
    have hlast : xs[rest.length]? = some (xs[rest.length]'(by omega)) := List.getElem?_eq_getElem (by omega)
    obtain ⟨dl, hdl, hrl⟩ := (hr4 e08).getV hlast
    have lastV : EvP (tOp (rIxL K) (tVar 0) (tOp (rI0 fun i j => .int (i - j)) (tCB (rLenS K) (tCons (tVar 0) tNil)) (tC (.int 1)))) [some (.ref a), some (.ref pd), some (.int d2), some (.int kind), none, none, none, none, none] H8 (RpG K Al fun d => d = dl) :=
      evp_ev (ev_op (ev_var rfl) (ev_op (ln e08 rfl) ev_c rv_I0) (rv_ixL (sq_of (e08 _ _ ha)) (v := xs[rest.length]'(by omega)) (by rw [show ((xs.length : Nat) : Int) - 1 = ((rest.length : Nat) : Int) by omega]; exact atI_nat hlast))) fun H9 e9 => ⟨dl, rfl, hrl.mo (ex_delL e9)⟩
    refine ret e08 (g_cat ok8 (g_lvar rfl (nodeV e08)) (g_lit ok8 (ra_cons lastV ra_nil) fun ds hd => by obtain ⟨_, _, rfl, _, rfl⟩ := hd; show 1 ≤ 100000; decide) (fun ds es h1 h2 => by
      obtain ⟨_, _, rfl, _, rfl⟩ := h2
      rw [h1]
      show rest.length + 1 + 1 ≤ 100000
      omega)) fun ds hd => ?_
    obtain ⟨es, fs, rfl, rfl, d9, _, rfl, hd9, rfl⟩ := hd
    rw [hd9]
    have hdm : dl ∈ (Py.str wd :: rest) := mem_of_get hdl
    refine ⟨right_len (r := rest ++ [dl]) (by rw [hw, List.length_append]; intro z; have := Option.some.inj z; have h9 : rest.length + 1 = rest.length + 1 + 1 := this; omega), fun x hx => ?_, by rw [List.length_append]; show rest.length + 1 + 1 ≤ 1000; omega⟩
    rcases List.mem_append.mp hx with hx | hx
    · rcases List.mem_cons.mp hx with rfl | hx
      · exact ⟨Nat.zero_le _, rfl⟩
      · exact smr x hx
    · rw [List.mem_singleton.mp hx]
      rcases List.mem_cons.mp hdm with rfl | hx
      · exact ⟨Nat.zero_le _, rfl⟩
      · exact smr dl hx
  have e08 := e07.trans e8
  refine q_when (et_test (ev_intEq (ev_var rfl) ev_c)) (fun hb4 H9 e9 => ?_) fun hb4 H9 e9 => ?_
  · have e09 := e08.trans e9
    have ok9 := aok.mo e09
    refine ret e09 (g_lit ok9 (ra_cons (G := fun d => d = .str wd) (g_str (nd0 e09 rfl) rfl) ra_nil) fun ds hd => by obtain ⟨_, _, rfl, _, rfl⟩ := hd; show 1 ≤ 100000; decide) fun ds hd => ?_
    obtain ⟨_, _, rfl, rfl, rfl⟩ := hd
    refine ⟨right_len (by rw [hw]; intro z; have := Option.some.inj z; have h9 : rest.length + 1 = 0 + 1 := this; omega), fun x hx => ?_, by show 1 ≤ 1000; decide⟩
    rw [List.mem_singleton.mp hx]
    exact ⟨Nat.zero_le _, rfl⟩
  have e09 := e08.trans e9
  refine q_asgL (el_lst ea_nil (Nat.zero_le _)) fun po H10 hpo e10 hpo10 => ?_
  refine q_forNP (R := fun vs H1 => Both (NamAt K H1) vs names4) (eab_cons (eab_cons (eab_cons (eab_cons eab_nil)))) (fun vs H1 hv => by rw [both_len hv]; show 4 ≤ 100000; decide) fun p vs H11 e11 hvs hp => ?_
  have hpo9 : H po = none := fresh_back e09 hpo
  have e011 := (e09.trans e10).trans (e11.trans (Ex.new (o := .lst vs) hp))
  have hl4 : vs.length = 4 := both_len hvs
  have nlen : rest.length + 1 = 2 ∨ rest.length + 1 = 3 ∨ rest.length + 1 = 4 := by omega
  have npo : p ≠ po := Ne.symm (ne_of_none (e11 _ _ hpo10) hp)
  refine ⟨fun i σ' H' => ∃ o7 o8, σ' = [some (.ref a), some (.ref pd), some (.int d2), some (.int kind), none, none, some (.ref po), o7, o8] ∧ H' p = some (.lst vs) ∧ Both (NamAt K H') vs names4 ∧ H' po = some (.lst ((othersN ((rest.length + 1 : Nat) : Int) (names4.take i)).map V.str)) ∧ (othersN ((rest.length + 1 : Nat) : Int) (names4.take i)).length ≤ i ∧ Ex H H',
    ⟨none, none, rfl, upd_same, both_imp (fun v x h => by obtain ⟨t, h1, h2⟩ := h; exact ⟨t, h1, ex_t (Ex.new hp) h2⟩) hvs, by rw [upd_ne (Ne.symm npo)]; exact e11 _ _ hpo10, Nat.zero_le _, e011⟩, fun i σ' H' _ h => by
      obtain ⟨_, _, _, h2, _⟩ := h
      exact sq_of h2, ?_, ?_⟩
  · rintro i x σ' H' hi ⟨o7, o8, rfl, hpv, hbv, hov, hol, e12⟩
    have hi4 : i < names4.length := by
      have := (List.getElem?_eq_some_iff.mp hi).1
      rw [hl4] at this
      exact this
    have hni := List.getElem?_eq_getElem hi4
    obtain ⟨u, hu, t, rfl, ht⟩ := both_get hbv hni
    rw [hi] at hu
    cases hu
    refine ⟨t, [_, _], rfl, ht, rfl, _, [_], rfl, _, [], rfl, rfl, ?_⟩
    have tk := take_one hni
    refine s_when (et_test (ev_op (ev_var rfl) (ln e12 rfl) (rv_ne rfl))) (fun hb H13 e13 => ?_) fun hb H13 e13 => ?_
    · have hb' : ¬ names4[i].2 = ((rest.length + 1 : Nat) : Int) := fun z => by
        rw [hxl] at hb
        rw [z] at hb
        simp at hb
      refine s_app (e13 _ _ hov) (ev_var rfl) (ev_var rfl) (by rw [List.length_map]; have h9 : i < 4 := hi4; omega) fun H14 e14 => ?_
      refine ⟨_, _, rfl, by rw [upd_ne npo]; exact (e13.trans e14) _ _ hpv, both_imp (fun v x h => by obtain ⟨t, h1, h2⟩ := h; exact ⟨t, h1, sqT_upd (ex_t (e13.trans e14) h2) (e14 _ _ (e13 _ _ hov))⟩) hbv, ?_, ?_, Ex.mut ((e12.trans e13).trans e14) hpo9⟩
      · rw [tk, others_snoc, if_neg hb', List.map_append]
        exact upd_same
      · rw [tk, others_snoc, if_neg hb', List.length_append]
        show _ + 1 ≤ _
        omega
    · have hb' : names4[i].2 = ((rest.length + 1 : Nat) : Int) := by
        rw [hxl] at hb
        simpa using hb
      refine ⟨_, _, rfl, e13 _ _ hpv, both_imp (fun v x h => by obtain ⟨t, h1, h2⟩ := h; exact ⟨t, h1, ex_t e13 h2⟩) hbv, ?_, ?_, e12.trans e13⟩
      · rw [tk, others_snoc, if_pos hb', List.append_nil]
        exact e13 _ _ hov
      · rw [tk, others_snoc, if_pos hb', List.append_nil]
        omega
  · rintro σ' H' ⟨o7, o8, rfl, hpv, hbv, hov, hol, e12⟩
    rw [hl4] at hov hol
    have tk4 : names4.take 4 = names4 := rfl
    rw [tk4] at hov hol
    obtain ⟨hne, hall⟩ := others_ok nlen
    generalize othersN ((rest.length + 1 : Nat) : Int) names4 = ows at hov hol hne hall
    have hpos : 0 < ows.length := List.length_pos_iff.mpr hne
    have p0 : 0 ≤ d2 % (((ows.map V.str).length : Nat) : Int) := Int.emod_nonneg _ (by rw [List.length_map]; omega)
    have p1 : d2 % (((ows.map V.str).length : Nat) : Int) < (((ows.map V.str).length : Nat) : Int) := Int.emod_lt_of_pos _ (by rw [List.length_map]; omega)
    have okE := aok.mo e12
    have allV : AllG K Al (ows.map V.str).length (fun d => ∃ w ∈ ows, d = .str w) (ows.map V.str) H' := ⟨rfl, fun v hv => by
      obtain ⟨w, hw, rfl⟩ := List.mem_map.mp hv
      exact ⟨.str w, ⟨w, hw, rfl⟩, .str w⟩⟩
    refine ret e12 (g_cat okE (g_lit okE (ra_cons (g_pickV (p := po) rfl hov allV (ev_mod (ev_var rfl) (ev_lenQ (ev_var rfl) (.inl (sq_of hov))) (by rw [List.length_map]; omega)) p0 p1) ra_nil) fun ds hd => by obtain ⟨_, _, rfl, _, rfl⟩ := hd; show 1 ≤ 100000; decide) (g_tail okE rfl (sq_of (e12 _ _ ha)) (hr4 e12)) (fun ds es h1 h2 => by
      obtain ⟨_, _, rfl, _, rfl⟩ := h1
      rw [h2]
      show 1 + rest.length ≤ 100000
      omega)) fun ds hd => ?_
    obtain ⟨es, fs, rfl, ⟨_, _, rfl, ⟨w2, hw2, rfl⟩, rfl⟩, hfs⟩ := hd
    have hfs' : fs = rest := hfs
    rw [hfs']
    refine ⟨right_len (r := rest) (hall w2 hw2), fun x hx => ?_, by show rest.length + 1 ≤ 1000; omega⟩
    rcases List.mem_cons.mp hx with rfl | hx
    · exact ⟨Nat.zero_le _, rfl⟩
    · exact smr x hx
end
end Kf

set_option Elab.async false
set_option linter.all false
set_option maxRecDepth 100000
set_option maxHeartbeats 4000000
namespace Kf
open PySem L2 Evl
def spSpoilt (K : PySem.W.Frag) : Sp := fun vs H Q _ => ∃ (v : V) (pq pd : Addr) (Hb : Hp) (t : Tr) (i : Nat) (qp ds : List Int), vs = [v, .ref pq, .ref pd] ∧ Ex Hb H ∧ Tree K Hb t v H ∧ t.Ok ∧ t.data.thin = true ∧ i < t.size ∧ t.real i = true ∧ t.paths[i]? = some qp ∧ qp.length ≤ 1000 ∧ SqT K H pq (qp.map V.int) ∧
  H pd = some (.lst (ds.map V.int)) ∧ Hb pd = H pd ∧ DigOk [2520, 30, 30, 3] ds ∧ ∀ d, BadD d → d.dep ≤ t.data.dep + 3 → d.thin = true → ∀ v' H', Ex Hb H' → Tree K Hb (t.put i (.x d)) v' H' → Q v' H'
section
variable {K : PySem.W.Frag} {σ : L2.St} {H H' : Hp} {Al Al' : List Addr} {tl : TE} {ta : TA} {g : TG} {tu tz : TS} {D : Ends} {E : XK}
theorem q_forNT {xs : List V} (h : EvP tl σ H fun v H1 => ∃ a, v = .ref a ∧ SqT K H1 a xs) (Pv : Addr → Nat → L2.St → Hp → Prop) (h0 : ∀ a H1, Ex H H1 → SqT K H1 a xs → Pv a 0 σ H1) (hl : ∀ a i σ' H', i ≤ xs.length → Pv a i σ' H' → SqT K H' a xs)
    (hs : ∀ a i x σ' H', xs[i]? = some x → Pv a i σ' H' → g x σ' H' fun σ2 H2 => tu { D with nx := Pv a (i + 1), ct := Pv a (i + 1), bk := tz D } σ2 H2) (hd : ∀ a σ' H', Pv a xs.length σ' H' → tz D σ' H') : tSeq (tFor (iTup K tl) g tu) tz D σ H :=
  h H (Ex.refl H) _ fun v H1 e hv => by
    obtain ⟨a, rfl, hx⟩ := hv
    exact ⟨a, rfl, ⟨xs, hx⟩, for_tup (Pv a) (h0 a H1 e hx) (hl a) (hs a) (hd a)⟩
theorem sv_bad {a pd : Addr} {ds : List Int} {es : List Py} (h : NodeAt K H Al a es) (hd : H pd = some (.lst (ds.map V.int))) (ok : DigOk [2520, 30, 30, 3] ds) (aok : AlOk H Al) : SpP (spBad K) [.ref a, .ref pd] H (RpG K Al (BadS (Py.deps es + 3))) := fun H1 e Q q E => by
  obtain ⟨xs, w, rest, h1, h2, h3, h4, h5, h6, h7⟩ := h
  refine ⟨a, pd, ds, Al, es, rfl, ⟨xs, w, rest, e _ _ h1, h2, h3.mo (ex_delL e), h4, h5, h6, fun hw => ?_⟩, e _ _ hd, ok, aok.mo e, q⟩
  obtain ⟨b, f, g, h, r, m, k1, k2, k3, k4⟩ := h7 hw
  exact ⟨b, f, g, h, r, m, k1, e _ _ k2, k3, k4⟩
theorem node_of {s : Tr} {v : V} {ls : List Addr} (h : Ow K H Al s v ls) (hr : s.real 0 = true) (ok : s.Ok) (th : s.data.thin = true) (hd : ∀ b ∈ ls, b ∉ Al') (e : Ex (delL H Al) (delL H Al')) : ∃ a es, v = .ref a ∧ s.data = .lst es ∧ NodeAt K H Al' a es := by
  cases s with
  | x d => exact nomatch hr
  | is f g h0 r m =>
    obtain ⟨a, b, h1, h2, h3, h4⟩ := h
    have ka := hd a (by rw [h2]; exact List.mem_cons_self)
    have kb := hd b (by rw [h2]; exact List.mem_cons_of_mem _ List.mem_cons_self)
    exact ⟨a, _, h1, rfl, _, _, _, h3, ka, .cons (.str _) (.cons (.of_list (by rw [delL_out kb]; exact h4) (RpAll.ints [f, g, h0])) (.cons (.int _) (.cons (.int _) .nil))), rfl, arity_is, (thin_lst th).2, fun _ => ⟨b, f, g, h0, r, m, rfl, h4, ok, by show 1 ≤ 1; decide⟩⟩
  | not c =>
    obtain ⟨a, w, l', h1, h2, h3, h4⟩ := h
    have ka := hd a (by rw [h2]; exact List.mem_cons_self)
    exact ⟨a, _, h1, rfl, _, _, _, h3, ka, .cons (.str _) (.cons (ow_rp h4 (fun b hb => hd b (by rw [h2]; exact List.mem_cons_of_mem _ hb)) e) .nil), rfl, arity_not, (thin_lst th).2, fun z => absurd z (by decide +kernel)⟩
  | bin o s t =>
    obtain ⟨a, x, y, l1, l2, h1, h2, h3, h4, h5⟩ := h
    have ka := hd a (by rw [h2]; exact List.mem_cons_self)
    exact ⟨a, _, h1, rfl, _, _, _, h3, ka, .cons (.str _) (.cons (ow_rp h4 (fun b hb => hd b (by rw [h2]; exact List.mem_cons_of_mem _ (List.mem_append_left _ hb))) e) (.cons (ow_rp h5 (fun b hb => hd b (by rw [h2]; exact List.mem_cons_of_mem _ (List.mem_append_right _ hb))) e) .nil)),
      rfl, by cases o; exact arity_and; exact arity_or, (thin_lst th).2, fun z => absurd z (by cases o <;> decide +kernel)⟩
end
section
variable {P : Program} {w : World} {K : PySem.W.Frag} {mg : Str → Option Value} {base : Heap} {H : Hp}
abbrev sLawSpoilt : Stmt := top 41
theorem scLawSpoilt : FnScope ["tree", "path", "digits", "part", "index", "last"] ["tree", "path", "digits"] (defScope sLawSpoilt) := ⟨rfl, rfl, rfl, by decide +kernel, rfl, by decide +kernel, by decide +kernel⟩
theorem df_spoilt (B : Bi mg) (DLawBad : Df P w K mg base CX0 "_law_bad" 2 ["node", "digits"] (spBad K)) (S : At K mg "_law_spoilt" sLawSpoilt ["tree", "path", "digits"]) : Df P w K mg base CX0 "_law_spoilt" 3 ["tree", "path", "digits"] (spSpoilt K) := by
  obtain ⟨f0, fd, F, mm, b0⟩ := S
  refine ⟨f0, fd, mm, F.kp, b0, F.ok scLawSpoilt (fun vs H Q E h => ?_) (fun cdv A outer s H vs Q E hr h => ?_)⟩
  · obtain ⟨v, pq, pd, Hb, t, i, qp, ds, rfl, _⟩ := h
    rfl
  obtain ⟨v, pq, pd, Hb, t, i, qp, ds, rfl, eb, ⟨l, how, nd, hfr⟩, tok, tth, hi, hreal, hpath, hql, hpq, hpd, hbd, dok, q⟩ := h
  refine ⟨_, (pss_cons (ps_if (pt_cmpR op_eq (pe_callB call_len_seq rfl B.len PySem.boot_len (pa_cons (pv 1) pa_nil)) pe_int (nomark _)) (pss_one (ps_ret (pe_df DLawBad hr pass0 (pa_cons (pv 0) (pa_cons (pv 2) pa_nil))))) pss_nil)
  (pss_cons (ps_set (i := 3) scLawSpoilt.nd rfl (Or.inl rfl) (pv 0))
  (pss_cons (ps_for PassesOwn.never rfl (pi_tup (pe_slice sl_tup (pv 1) po_none (po_some (pe_op op_sub (pe_callB call_len_seq rfl B.len PySem.boot_len (pa_cons (pv 1) pa_nil)) pe_int)))) (pg_name (i := 4) scLawSpoilt.nd rfl (Or.inl rfl)) (pss_one (ps_set (i := 3) scLawSpoilt.nd rfl (Or.inl rfl) (pe_ix ix_list (pv 3) (pv 4) (fun _ _ => rfl)))))
  (pss_cons (ps_set (i := 5) scLawSpoilt.nd rfl (Or.inl rfl) (pe_ix ix_tup (pv 1) (pe_op op_sub (pe_callB call_len_seq rfl B.len PySem.boot_len (pa_cons (pv 1) pa_nil)) pe_int) (fun _ _ => rfl)))
  (pss_cons (ps_asg (pe_df DLawBad hr pass0 (pa_cons (pe_ix ix_list (pv 3) (pv 5) (fun _ _ => rfl)) (pa_cons (pv 2) pa_nil))) (pg_sub (pv 3) (pv 5) set_list))
  (pss_one (ps_ret (pv 0)))))))), ?_⟩
  have lq : (qp.map V.int).length = qp.length := List.length_map _
  have allc : ∀ b ∈ l, H b ≠ none := fun b hb z => by
    obtain ⟨xs, hx⟩ := ow_cell how hb
    rw [hx] at z
    cases z
  refine q_when (et_test (ev_intEq (ev_lenQ (ev_var rfl) (.inr hpq)) ev_c)) (fun hb H1 e1 => ?_) fun hb H1 e1 => ?_
  · have h0 := of_decide_eq_true hb
    have hq0 : qp = [] := List.eq_nil_of_length_eq_zero (by omega)
    have hi0 : i = 0 := by
      cases i with
      | zero => rfl
      | succ i =>
        subst hq0
        cases t with
        | x d => exact absurd hi (by show ¬ i + 1 < 1; omega)
        | is => exact absurd hi (by show ¬ i + 1 < 1; omega)
        | not c =>
          rw [Tr.path_not] at hpath
          obtain ⟨r, _, hr⟩ := map_some hpath
          cases hr
        | bin o a b =>
          rw [Tr.path_bin] at hpath
          split at hpath
          · obtain ⟨r, _, hr⟩ := map_some hpath
            cases hr
          · obtain ⟨r, _, hr⟩ := map_some hpath
            cases hr
    subst hi0
    obtain ⟨a, es, rfl, hes, hn⟩ := node_of (Al' := []) (ow_ex how e1) hreal tok tth (fun b _ z => nomatch z) (by rw [delL_nil]; exact ex_of_delL)
    refine s_retP (evp_call (ea_cons (ev_var rfl) (ea_cons (ev_var rfl) ea_nil)) (sv_bad hn (e1 _ _ hpd) dok fun b z => nomatch z)) fun v2 H2 e2 hv => ?_
    obtain ⟨d, ⟨hd1, hd2, hd3⟩, hr⟩ := hv
    refine q d hd1 (by rw [hes]; have h9 : d.dep ≤ Py.deps es + 3 := hd2; show d.dep ≤ Py.deps es + 1 + 3; omega) hd3 v2 H2 ((eb.trans e1).trans e2) ?_
    rw [put_zero]
    exact ⟨[], ⟨rfl, hr⟩, List.nodup_nil, fun b z => nomatch z⟩
  · have h0 := of_decide_eq_false hb
    have hi0 : 0 < i := by
      cases i with
      | zero =>
        rw [Tr.path_zero] at hpath
        cases hpath
        exact absurd rfl h0
      | succ i => exact Nat.succ_pos i
    obtain ⟨qq, last, pa, xs, w2, s, ls, l', g1, g2, g3, g4, g5, g6, g6b, g7, g8, g9, g10, g11, g12, g14, g13⟩ := ow_put t v l i how nd hi0 hi hreal
    rw [g1] at hpath
    cases hpath
    have e1H := e1
    refine q_asg (ev_var rfl) fun H2 e2 => ?_
    have e02 := e1.trans e2
    have hpq2 := ex_t e02 hpq
    have lqq : ((qq ++ [(last : Int)]).map V.int).length = qq.length + 1 := by rw [List.length_map, List.length_append] <;> rfl
    have cutq : cutV ((qq ++ [(last : Int)]).map V.int) none (some ((((qq ++ [(last : Int)]).map V.int).length : Int) - 1)) = qq.map V.int := by
      rw [cut_take (n := qq.length) (by rw [lqq]; omega) (by rw [lqq]; omega), List.map_append, List.take_left' (List.length_map _)]
    have notw : ¬ (HT.sIx ((qq ++ [(last : Int)]).map V.int).length 0 none = 0 ∧ HT.sIx ((qq ++ [(last : Int)]).map V.int).length ((qq ++ [(last : Int)]).map V.int).length (some ((((qq ++ [(last : Int)]).map V.int).length : Int) - 1)) = ((qq ++ [(last : Int)]).map V.int).length) := by
      rintro ⟨_, z⟩
      rw [lqq, show ((qq.length + 1 : Nat) : Int) - 1 = ((qq.length : Nat) : Int) by omega, HT.sIx_nat] at z
      omega
    refine q_forNT (xs := qq.map V.int) (fun H3 e3 Q' q' => ?_) (fun a k σ' H' => ∃ (y : V) (o4 : Option V), σ' = [some v, some (.ref pq), some (.ref pd), some y, o4, none] ∧ follow H y (qq.drop k) = some (.ref pa) ∧ SqT K H' a (qq.map V.int) ∧ Ex H H')
      (fun a H3 e3 hx => ⟨v, none, rfl, g2, hx, e02.trans e3⟩) (fun a k σ' H' _ h => by
        obtain ⟨_, _, _, _, hx, _⟩ := h
        exact hx) ?_ ?_
    · refine ⟨_, rfl, ⟨_, rfl, pq, _, rfl, .inr (ex_t e3 hpq2), _, _, rfl, rfl, _, rfl, pq, _, rfl, ex_t e3 hpq2, notw, fun p hp => ?_⟩⟩
      rw [cutq]
      exact q' _ _ (Ex.new hp) ⟨p, rfl, st_of upd_same⟩
    · rintro a k x σ' H' hk ⟨y, o4, rfl, hf, hx, e3⟩
      obtain ⟨z, hz, rfl⟩ := map_get hk
      obtain ⟨hlt, he⟩ := List.getElem?_eq_some_iff.mp hz
      rw [List.drop_eq_getElem_cons hlt, he] at hf
      obtain ⟨a2, xs2, y2, rfl, f1, f2, f3⟩ := follow_step hf
      exact s_asg (ev_op (ev_var rfl) (ev_var rfl) (rv_ixL (sq_of (e3 _ _ f1)) f2)) fun H4 e4 => ⟨y2, _, rfl, f3, ex_t e4 hx, e3.trans e4⟩
    · rintro a σ' H3 ⟨y, o4, rfl, hf, hx, e3⟩
      rw [List.length_map, List.drop_length] at hf
      have hy : y = .ref pa := Option.some.inj hf
      subst hy
      refine q_asg (v := .int (last : Int)) (ev_op (ev_var rfl) (ev_op (ev_lenQ (ev_var rfl) (.inr (ex_t e3 hpq))) ev_c rv_I0) (rv_ixT (ex_t e3 hpq) (by
        rw [show (((((qq ++ [(last : Int)]).map V.int).length : Nat) : Int)) - 1 = ((qq.length : Nat) : Int) by rw [lqq]; omega]
        exact atI_nat (by rw [List.getElem?_map, List.getElem?_append_right (Nat.le_refl _), Nat.sub_self] <;> rfl)))) fun H4 e4 => ?_
      have e04 := e3.trans e4
      have hsub : Ex (delL H4 l) (delL H4 l') := ex_delL_sub g12
      obtain ⟨aw, es, rfl, hes, hn⟩ := node_of (Al' := l') (ow_ex g8 e04) g5 (g6 tok) (g6b tth) g11 hsub
      have aok4 : AlOk H4 l' := fun b hb z => by
        obtain ⟨xs9, h9⟩ := ow_cell how (g12 b hb)
        rw [e04 _ _ h9] at z
        cases z
      refine q_setP (j := last) (P := RpG K l' (BadS (Py.deps es + 3))) (e04 _ _ g3) (evp_call (ea_cons (ev_op (ev_var rfl) (ev_var rfl) (rv_ixL (sq_of (e04 _ _ g3)) (atI_nat g4))) (ea_cons (ev_var rfl) ea_nil)) (sv_bad hn (e04 _ _ hpd) dok aok4)) (ev_var rfl) (ev_var rfl) (List.getElem?_eq_some_iff.mp g4).1 fun v5 H5 H6 e5 hv e6 => ?_
      obtain ⟨d, ⟨hd1, hd2, hd3⟩, hr⟩ := hv.mo e6
      have e06 := (e04.trans e5).trans e6
      have same : delL (upd H6 pa (.lst (xs.set last v5))) l' = delL H6 l' := funext fun b => by
        by_cases z : b ∈ l'
        · rw [delL_in z, delL_in z]
        · rw [delL_out z, delL_out z, upd_ne fun e => z (by rw [e]; exact g9)]
      have fin := g13 (upd H6 pa (.lst (xs.set last v5))) l' v5 d (fun b o _ hne ho => by rw [upd_ne hne]; exact e06 _ _ ho) upd_same (by
        rw [same]
        exact (ex_delL e06).trans (ex_delL_sub g12)) (by rw [same]; exact hr)
      have hbpa : Hb pa = none := hfr pa (g12 pa g9)
      have eF : Ex Hb (upd H6 pa (.lst (xs.set last v5))) := Ex.mut (eb.trans e06) hbpa
      refine s_ret (ev_var rfl) fun H7 e7 => q d hd1 ?_ hd3 v H7 (eF.trans e7) (Tree.mo ⟨l', fin, g10, fun b hb => hfr b (g12 b hb)⟩ e7)
      rw [hes] at g7
      have h9 : d.dep ≤ Py.deps es + 3 := hd2
      have h10 : Py.deps es + 1 + 1 ≤ t.data.dep := g7
      omega
end
end Kf

set_option Elab.async false
set_option linter.all false
set_option maxRecDepth 100000
set_option maxHeartbeats 4000000
namespace Kf
open PySem L2 Evl
section
variable {K : PySem.W.Frag} {σ : L2.St} {H H' : Hp} {tl te : TE} {tz : TS} {D : Ends}
/-- x = [e for y in xs], what e makes told -/
theorem q_lcX {a : Addr} {xs : List V} {i j : Nat} {vs : List Nat} (Iv : Addr → Nat → List V → Hp → Prop) (h : Ev tl σ H (.ref a)) (hx : SqL K H a xs) (hz : xs.length ≤ 40000) (hw : ∀ x, wipe ((wipe σ vs).set j (some x)) vs = wipe σ vs) (h0 : ∀ Dl H1, Ex H H1 → H1 Dl = none → Iv Dl 0 [] (upd H1 Dl (.lst [])))
    (he : ∀ Dl n x ys H1 H2, Ex H H1 → H1 Dl = none → Ex H1 H2 → H2 Dl = some (.lst ys) → xs[n]? = some x → Iv Dl n ys H2 → ∀ Q : VK, (∀ y H4, Ex H2 H4 → Iv Dl (n + 1) (ys ++ [y]) (upd H4 Dl (.lst (ys ++ [y]))) → Q y H4) → te ((wipe σ vs).set j (some x)) H2 Q)
    (k : ∀ Dl ys H2, H Dl = none → Ex H H2 → H2 Dl = some (.lst ys) → Iv Dl xs.length ys H2 → tz D (σ.set i (some (.ref Dl))) H2) : tSeq (tAsg (tLc (iList K tl) (gName j) tYes te vs) (gName i)) tz D σ H := by
  refine h H (Ex.refl H) _ fun H1 e1 => ⟨a, rfl, ⟨xs, ex_l e1 hx⟩, fun Dl hD => ?_⟩
  refine lc_list (xs := xs) (fun n H2 => ∃ ys, H2 Dl = some (.lst ys) ∧ ys.length = n ∧ Ex H1 H2 ∧ Iv Dl n ys H2) ⟨[], upd_same, rfl, Ex.new hD, h0 Dl H1 e1 hD⟩ (fun n H2 _ p => ?_) (fun n x H2 hn p => ?_) fun H2 p => ?_
  · obtain ⟨ys, _, _, e, _⟩ := p
    exact ex_l (e1.trans e) hx
  · obtain ⟨ys, h1, h2, h3, h4⟩ := p
    refine ⟨hw x, he Dl n x ys H1 H2 e1 hD h3 h1 hn h4 _ fun y H4 e r => ?_⟩
    exact ⟨ys, e _ _ h1, sz_lt (by have := (List.getElem?_eq_some_iff.mp hn).1; omega), ys ++ [y], upd_same, by rw [List.length_append, h2] <;> rfl, Ex.mut (h3.trans e) hD, r⟩
  · obtain ⟨ys, h1, h2, h3, h4⟩ := p
    exact k Dl ys H2 (fresh_back e1 hD) (e1.trans h3) h1 h4
end
def spHanded (K : PySem.W.Frag) (n : Nat) : Sp := fun vs H Q _ => ∃ (x : V) (d : Py) (mode : Int) (k : Nat) (Al : List Addr), vs = [x, .int mode, .int (k : Int)] ∧ Rp K (delL H Al) x d ∧ AlOk H Al ∧ d.dep ≤ n ∧ d.thin = true ∧ ∀ v H', Ex H H' → Rp K (delL H' Al) v (handD mode k d) → Q v H'
theorem handL_app (mode : Int) (k : Nat) : ∀ a b : List Py, handL mode k (a ++ b) = handL mode k a ++ handL mode k b
  | [], b => rfl
  | x :: a, b => congrArg (handD mode k x :: ·) (handL_app mode k a b)
section
variable {P : Program} {w : World} {K : PySem.W.Frag} {mg : Str → Option Value} {base : Heap} {H : Hp}
abbrev sLawHanded : Stmt := top 42
theorem scLawHanded : FnScope ["thing", "mode", "depth", "parts", "part"] ["thing", "mode", "depth"] (defScope sLawHanded) := ⟨rfl, rfl, rfl, by decide +kernel, rfl, by decide +kernel, by decide +kernel⟩
theorem df_handed (B : Bi mg) (S : At K mg "_law_handed" sLawHanded ["thing", "mode", "depth"]) : ∀ n : Nat, Df P w K mg base CX0 "_law_handed" (n + 1) ["thing", "mode", "depth"] (spHanded K n) := by
  have main : ∀ n : Nat, Df P w K mg base CX0 "_law_handed" n ["thing", "mode", "depth"] (fun vs H Q E => ∃ m, n = m + 1 ∧ spHanded K m vs H Q E) → Df P w K mg base CX0 "_law_handed" (n + 1) ["thing", "mode", "depth"] (spHanded K n) := fun n DLawHanded => by
    obtain ⟨f0, fd, F, mm, b0⟩ := S
    refine ⟨f0, fd, mm, F.kp, b0, F.ok scLawHanded (fun vs H Q E h => ?_) (fun cdv A outer s H vs Q E hr h => ?_)⟩
    · obtain ⟨x, d, mode, k, Al, rfl, _⟩ := h
      rfl
    obtain ⟨x, d, mode, k, Al, rfl, hx, aok, hdn, hth, q⟩ := h
    refine ⟨_, (pss_cons (ps_if (pt_not (pt_val (pe_callB call_isi rfl B.isinstance PyProof.Rows.boot_isinstance (pa_cons (pv 0) (pa_cons (pe_bltn (v := .ty "list") rfl B.list PyProof.Rows.boot_list rfl) pa_nil))))) (pss_one (ps_ret (pv 0))) pss_nil)
  (pss_cons (ps_setLc (i := 3) (own := [("part", 4)]) (g := gName 4) (by rfl) scLawHanded.nd rfl rfl (sw_true rfl rfl rfl (by decide +kernel)) (pi_list (pv 0)) (blkOk_by (own := [("part", 4)]) (N := ["thing", "mode", "depth", "parts", "part"]) (sc := defScope sLawHanded) (by decide +kernel)) (fun _ _ _ _ _ => pg_name (i := 4) scLawHanded.nd rfl (Or.inl rfl)) (fun _ _ _ _ _ => pts_nil) (fun _ _ _ _ _ => (pe_df DLawHanded hr pass0 (pa_cons (pv 4) (pa_cons (pv 1) (pa_cons (pe_op op_add (pv 2) pe_int) pa_nil))))))
  (pss_cons (ps_if (PW.pt (pw_or (pt_cmpR op_eq (pv 1) pe_int (nomark _)) (pw_or1 (PW.pt (pw_and (pt_cmpR op_eq (pv 1) pe_int (nomark _)) (pw_and1 (pt_cmpR op_eq (pe_op op_mod (pe_callTy call_int1 rfl B.int PyProof.Rows.boot_int (pa_cons (pv 2) pa_nil)) pe_int) pe_int (nomark _)))))))) (pss_one (ps_ret (pe_callTy call_tuple_of rfl B.tuple PyProof.Rows.boot_tuple (pa_cons (pv 3) pa_nil)))) pss_nil)
  (pss_one (ps_ret (pv 3)))))), ?_⟩
    cases d with
    | lst ds =>
      have hx0 := hx
      refine q_when (b := false) (et_is (et_not (et_B (ev_isi (ev_var rfl) (hx0.mo ex_of_delL) (isT_list _)))) rfl) (fun z => nomatch z) fun _ H1 e1 => ?_
      · skip
        cases hx with
        | @lst a xs _ hs ha =>
        have hlen := ha.length
        have th := thin_lst hth
        have hs1 : SqL K H1 a xs := ex_l (ex_of_delL.trans e1) hs
        have hdn' : Py.deps ds + 1 ≤ n := hdn
        refine q_lcX (fun Dl m ys H2 => RpAll K (delL H2 (Dl :: Al)) ys (handL mode (k + 1) (ds.take m)) ∧ Dl ∉ Al) (ev_var rfl) hs1 (by omega) (fun x => rfl) (fun Dl H2 e2 hD => ⟨by rw [List.take_zero]; exact .nil, (aok.mo (e1.trans e2)).out hD⟩) (fun Dl m x ys H2 H3 e2 hD e3 hDl hm hiv Q' q' => ?_) fun Dl ys H2 hD e2 hDl hiv => ?_
        · obtain ⟨dm, hdm, hrm⟩ := ha.getV hm
          have e03 := (e1.trans e2).trans e3
          have aok3 : AlOk H3 (Dl :: Al) := fun b hb => by
            rcases List.mem_cons.mp hb with rfl | hb
            · rw [hDl]; exact fun z => nomatch z
            · exact (aok.mo e03) b hb
          have hH : Ex (delL H Al) (delL H3 (Dl :: Al)) := fun b o hb => by
            by_cases z : b ∈ Al
            · rw [delL_in z] at hb; cases hb
            · rw [delL_out z] at hb
              have hne : b ≠ Dl := fun e => by
                rw [e] at hb
                have := (e1.trans e2) _ _ hb
                rw [hD] at this
                cases this
              rw [delL_out fun m => by
                rcases List.mem_cons.mp m with m | m
                · exact hne m
                · exact z m]
              exact e03 _ _ hb
          have hlt := (List.getElem?_eq_some_iff.mp hdm).1
          refine evp_call (P := fun v H5 => Rp K (delL H5 (Dl :: Al)) v (handD mode (k + 1) dm)) (ea_cons (ev_var rfl) (ea_cons (ev_var rfl) (ea_cons (ev_is (ev_op (ev_var rfl) ev_c rv_I0) (by rw [show (k : Int) + 1 = ((k + 1 : Nat) : Int) by omega])) ea_nil))) (fun H5 e5 Q2 q2 E2 => ?_) H3 (Ex.refl H3) Q' fun y H5 e5 hy => q' y H5 e5 ?_
          · have hn1 : n = (n - 1) + 1 := by omega
            exact ⟨n - 1, hn1, x, dm, mode, k + 1, Dl :: Al, rfl, (hrm.mo hH).mo (ex_delL e5), aok3.mo e5, by have := deps_get hdm; omega, thins_get th.2 hdm, fun v H6 e6 hv => q2 v H6 e6 hv⟩
          · have same : delL (upd H5 Dl (.lst (ys ++ [y]))) (Dl :: Al) = delL H5 (Dl :: Al) := funext fun b => by
              by_cases z : b ∈ Dl :: Al
              · rw [delL_in z, delL_in z]
              · rw [delL_out z, delL_out z, upd_ne fun e => z (by rw [e]; exact List.mem_cons_self)]
            refine ⟨?_, hiv.2⟩
            rw [same, take_one hdm, handL_app]
            exact (hiv.1.mo (ex_delL e5)).app (.cons hy .nil)
        · obtain ⟨hall, hDn⟩ := hiv
          rw [hlen, List.take_length] at hall
          have hall' : RpAll K (delL H2 Al) ys (handL mode (k + 1) ds) := hall.mo (ex_delL_sub fun b hb => List.mem_cons_of_mem _ hb)
          have e02 := e1.trans e2
          have ehD : handD mode k (.lst ds) = seqD0 (handB mode k) (handL mode (k + 1) ds) := rfl
          refine q_when (b := handB mode k) (et_or (et_test (ev_intEq (ev_var rfl) ev_c)) fun _ => et_and (et_test (ev_intEq (ev_var rfl) ev_c)) fun _ => et_test (ev_intEq (ev_mod (ev_int (ev_var rfl)) ev_c (by decide)) ev_c)) (fun hb3 H3 e3 => ?_) fun hb3 H3 e3 => ?_
          · refine s_retP (P := fun v H4 => Rp K (delL H4 Al) v (.tup (handL mode (k + 1) ds))) (fun H4 e4 Q' q' => eu_tupOf (ev_var rfl) (sq_of (e3 _ _ hDl)) H4 e4 _ fun p H5 hp e5 h5 => q' _ H5 e5 (.of_tup (by rw [delL_out (((aok.mo e02).mo (e3.trans e4)).out hp)]; exact h5) (hall'.mo (ex_delL ((e3.trans e4).trans e5))))) fun v H4 e4 hv => q v H4 ((e02.trans e3).trans e4) ?_
            rw [ehD, hb3]
            exact hv
          · refine s_ret (ev_var rfl) fun H4 e4 => q _ H4 ((e02.trans e3).trans e4) ?_
            rw [ehD, hb3]
            exact .of_list (by rw [delL_out hDn]; exact (e3.trans e4) _ _ hDl) (hall'.mo (ex_delL (e3.trans e4)))
    | _ => exact q_when (b := true) (et_is (et_not (et_B (ev_isi (ev_var rfl) (hx.mo ex_of_delL) (isT_list _)))) rfl) (fun _ H1 e1 => s_ret (ev_var rfl) fun H2 e2 => q x H2 (e1.trans e2) (hx.mo (ex_delL (e1.trans e2)))) fun z => nomatch z
  intro n
  induction n with
  | zero => exact main 0 (df_noneX S fun vs H Q E h => by obtain ⟨m, hm, _⟩ := h; exact nomatch hm)
  | succ n ih => exact main (n + 1) (ih.imp fun vs H Q E h => by obtain ⟨m, hm, h⟩ := h; cases hm; exact h)
end
end Kf

set_option Elab.async false
set_option linter.all false
set_option maxRecDepth 100000
set_option maxHeartbeats 4000000
namespace Kf
open PySem L2 Evl PySem.Spec PyProof.Rows
/-! ### except clauses, each with or without a name -/
abbrev Clause := Value × Option Nat × (Addr → Value → Option Addr → TS)
/-- where a clause's suite ends: its name is gone -/
def endsOf (D : Ends) : Option Nat → Ends
  | none => D
  | some i => { nx := fun τ G => D.nx (τ.set i none) G, rt := D.rt, bk := fun τ G => D.bk (τ.set i none) G, ct := fun τ G => D.ct (τ.set i none) G }
def startOf (τ : L2.St) (a : Addr) : Option Nat → L2.St
  | none => τ
  | some i => τ.set i (some (.ref a))
def wMix (K : PySem.W.Frag) (Wo : WX) (D : Ends) : List Clause → WX
  | [] => Wo
  | (c, o, ts) :: r => fun cls d τ G => ∃ b, PySem.W.exmOne K cls c = some b ∧ (b = true → ∀ a, G a = none → ts a cls d (endsOf D o) (startOf τ a o) G) ∧ (b = false → wMix K Wo D r cls d τ G)
def NameOk (X : Cx) : Option Str → Option Nat → Prop
  | none, none => True
  | some n, some i => X.N[i]? = some n ∧ X.env.kindOf n = some .local
  | _, _ => False
inductive MixOk (X : Cx) : List ExceptHandler → List Clause → Prop
  | nil : MixOk X [] []
  | cons {x : Str} {c : Value} {n : Option Str} {o : Option Nat} {ts : Addr → Value → Option Addr → TS} {s₀ : Stmt} {ss : List Stmt} {p1 p2 : Pos} {hs : List ExceptHandler} {l : List Clause} (hc : Names X x c) (hn : NameOk X n o)
      (hsu : ∀ (a : Addr) (oe : Obj) (cls : Value) (d : Option Addr) (pn : List (Addr × Obj)), L2N.Zn cls d oe → (∃ vs, oe.data = .fields vs) → PSs (X.suite a ((a, oe) :: pn)) (s₀ :: ss) (ts a cls d)) (r : MixOk X hs l) :
      MixOk X (.ExceptHandler (some (.Name x p1)) n (s₀ :: ss) p2 :: hs) ((c, o, ts) :: l)
section
variable {X : Cx} {body : List Stmt} {k₀ : ExceptHandler} {ks : List ExceptHandler} {l : List Clause} {pos : Pos} {tb : WX → TS} {Wo : WX}
theorem ps_try_mix (stk : X.stack = X.env :: X.outer) (frm : X.env.frame = some X.env.locals) (nod : X.N.Nodup) (tk : L2N.Takes X Wo)
    (inner : ∀ (W : WX) (pn : List (Addr × Obj)) (xe : Value → Shared → Prop), L2N.Takes (X.tr pn xe) W → PassesOwn (model X.prog X.w) X.A X.env xe → PSs (X.tr pn xe) body (tb W))
    (hh : MixOk X (k₀ :: ks) l) : PS X (.Try body (k₀ :: ks) [] [] pos) (fun D σ H => tb (wMix X.K Wo D l) D σ H) := by
  refine ⟨fun pins s0 τ G D inv wish => ?_⟩
  have okX := inv.ok
  have frames : X.A.frames = some (X.env :: X.outer) := by rw [okX.frames, stk]
  have run := (inner (wMix X.K Wo D l) (X.pn ++ pins) (fun u t1 => wpAny (model X.prog X.w) X.A (noteFrame u X.env)
      (fun _ t2 => wpAny (model X.prog X.w) X.A (setFlight u none) (fun _ t3 => wpAny (model X.prog X.w) X.A (handleBy u X.env (k₀ :: ks)) (SP X pins D) X.xe t3) X.xe t2) X.xe t1)
    (fun u t4 air => by
      obtain ⟨xa, Bh, sJ, pj, τ1, G1, kc, kd, rfl, inv', notB, upS, skyX, gNone, sameOs, bareG, todo⟩ := air
      have invX : Inv X pins τ1 G1 sJ := inv'.ofTry okX
      have skyY : Sky Bh (X.env :: X.outer) xa (L2N.Zn kc kd) X.env.locals t4.heap := by
        rw [← stk]
        exact skyX
      show wpAny (model X.prog X.w) X.A (noteFrame (.ref xa) X.env) _ _ _
      refine L2N.Sky.land L2N.Zn.steady frames frm skyY fun hp flies upH => ?_
      have inv3 : Inv X pins τ1 G1 { t4 with heap := hp } := invX.landed notB flies.1 (upS.trans upH) sameOs bareG
      obtain ⟨ob, fv, obAt, obZ, obD⟩ := flies.there
      have notFrame : xa ∉ frs (X.env :: X.outer) := fun hm => by
        obtain ⟨_, o', at', no⟩ := flies.2.2.1.mem hm
        rw [obAt] at at'
        cases at'
        exact no _ obD
      have notLoc : xa ≠ X.env.locals := fun z => notFrame (List.mem_filterMap.mpr ⟨X.env, List.mem_cons_self, by rw [frm, z]⟩)
      have notFs : xa ∉ X.fs := fun hm => by
        obtain ⟨e, he, q⟩ := List.mem_filterMap.mp hm
        exact notFrame (List.mem_filterMap.mpr ⟨e, List.mem_cons_of_mem _ he, q⟩)
      have suite3 := inv3.suite obAt obD gNone notLoc notFs
      have each : ∀ {hs' : List ExceptHandler} {l' : List Clause}, MixOk X hs' l' → wMix X.K Wo D l' kc kd τ1 G1 → wpAny (model X.prog X.w) X.A (handleBy (.ref xa) X.env hs') (SP X pins D) X.xe { t4 with heap := hp } := by
        intro hs' l' ok
        induction ok with
        | nil =>
          intro last
          refine wpAny_handleBy_nil ?_
          obtain ⟨_, _, _, ob', fv', TT, oT, tt', at', z', d', one', rest'⟩ := id flies
          unfold PySem.passOn
          refine wpAny_bind (wpAny_field at' d' one' ?_)
          rw [if_neg (show ¬ ((Value.ref TT == Value.none) = true) by simp)]
          have up9 : wpAny (model X.prog X.w) X.A (setFlight (.ref xa) X.env.frame) (fun _ t9 => wpAny (model X.prog X.w) X.A (throw (.ref xa) : Sem Flow) (SP X pins D) X.xe t9) X.xe { t4 with heap := hp } := by
            rw [frm]
            refine HandSPX.setFlight_upZ flies fun h9 held9 up9 => wpAny_throw (tk _ _ ?_)
            exact ⟨xa, Bh, sJ, pins, τ1, G1, kc, kd, rfl, invX, notB, (upS.trans upH).trans up9, .inr (.inr (by rw [stk]; exact held9)), gNone, sameOs, bareG, last⟩
          first
            | exact wpAny_bind (wpAny_pure (wpAny_bind up9))
            | exact wpAny_bind up9
        | @cons x c n o ts s₀ ss p1 p2 hs2 l2 hc hn hsu r ih =>
          intro now
          obtain ⟨b, hb1, yes, no⟩ := now
          refine wpAny_handleBy_cons (codeAny_handlers_test ?_) (by intro q; cases q)
          have isKc : PySem.W.Looks (model X.prog X.w) hp (typeOf (.ref xa)) kc := fun A' Q' E' t' kk q => wpAny_typeOf_ref (kk _ _ obAt) (by rw [obZ.1]; exact q)
          have matched := PySem.W.exm_one (M := model X.prog X.w) inv3.kIn isKc hb1
          have seen : ∀ {Q E : Value → Shared → Prop}, Q c { t4 with heap := hp } → wpAny (model X.prog X.w) (X.A.mark (some (.ref xa))) (eval (.Name x p1) X.env) Q E { t4 with heap := hp } := fun {Q E} q => by
            obtain ⟨gl, dbg, m1 | ⟨m1, m2, m3⟩⟩ := hc
            · exact ld_glob (X := X.suite xa ((xa, ob) :: (X.pn ++ pins))) suite3 gl m1 q dbg
            · exact ld_blt (X := X.suite xa ((xa, ob) :: (X.pn ++ pins))) suite3 gl m1 m2 q m3 dbg
          refine seen (matched.here ?_)
          cases b with
          | false =>
            show wpAny _ X.A (handleBy (.ref xa) X.env hs2) _ _ _
            exact ih (no rfl)
          | true =>
            match n, o, hn with
            | none, none, _ =>
              refine codeAny_handlers_suite ?_
              refine HandSPX.lands_againZ flies fun h5 fl5 up5 => ?_
              have inv5 : Inv X pins τ1 G1 { t4 with heap := h5 } := invX.landed notB fl5.1 ((upS.trans upH).trans up5) sameOs bareG
              obtain ⟨ob5, fv5, at5, z5, d5⟩ := fl5.there
              have suite5 := inv5.suite at5 d5 gNone notLoc notFs
              refine wpAny_mono ((hsu xa ob5 kc kd (X.pn ++ pins) z5 ⟨_, d5⟩).run [] _ _ G1 _ suite5 (yes rfl xa gNone)) (fun fl t6 end6 => ?_) (fun _ _ z => False.elim z)
              cases fl with
              | ret u =>
                obtain ⟨v6, τ6, G6, J6, r6, q6⟩ := end6
                exact ⟨_, _, _, J6.unsuite okX, r6, q6⟩
              | next => obtain ⟨τ6, G6, J6, q6⟩ := end6; exact ⟨_, _, J6.unsuite okX, q6⟩
              | brk => obtain ⟨τ6, G6, J6, q6⟩ := end6; exact ⟨_, _, J6.unsuite okX, q6⟩
              | cont => obtain ⟨τ6, G6, J6, q6⟩ := end6; exact ⟨_, _, J6.unsuite okX, q6⟩
            | some nm, some i, hn =>
              obtain ⟨hi, hln⟩ := hn
              have hloc : Loc X.env.scope nm := .inl hln
              refine codeAny_handlers_suite_as ?_
              refine HandSPX.lands_againZ flies fun h5 fl5 up5 => ?_
              have inv5 : Inv X pins τ1 G1 { t4 with heap := h5 } := invX.landed notB fl5.1 ((upS.trans upH).trans up5) sameOs bareG
              obtain ⟨ob5, fv5, at5, z5, d5⟩ := fl5.there
              have suite5 := inv5.suite at5 d5 gNone notLoc notFs
              refine store_ok (X := X.suite xa ((xa, ob5) :: (X.pn ++ pins))) (v := .ref xa) suite5 nod hi hloc rfl (fun t5 S5 => ?_) (.inr hln)
              refine wpAny_mono ((hsu xa ob5 kc kd (X.pn ++ pins) z5 ⟨_, d5⟩).run [] t5 _ G1 _ S5 (yes rfl xa gNone)) (fun fl t6 end6 => ?_) (fun _ _ z => False.elim z)
              have gone : ∀ {τ6 : L2.St} {G6 : Hp} {Q : Shared → Prop}, Inv (X.suite xa ((xa, ob5) :: (X.pn ++ pins))) [] τ6 G6 t6 → (∀ t7, Inv X pins (τ6.set i none) G6 t7 → Q t7) →
                  wpAny (model X.prog X.w) X.A (do bindName X.env nm .none; unbindBehindTheSuite X.env nm p2) (fun _ t7 => Q t7) X.xe t6 := fun J6 q => gone_ok (J6.unsuite okX) nod hi hln q
              cases fl with
              | ret u =>
                obtain ⟨v6, τ6, G6, J6, r6, q6⟩ := end6
                exact gone J6 fun t7 J7 => ⟨_, _, _, J7, r6, q6⟩
              | next => obtain ⟨τ6, G6, J6, q6⟩ := end6; exact gone J6 fun t7 J7 => ⟨_, _, J7, q6⟩
              | brk => obtain ⟨τ6, G6, J6, q6⟩ := end6; exact gone J6 fun t7 J7 => ⟨_, _, J7, q6⟩
              | cont => obtain ⟨τ6, G6, J6, q6⟩ := end6; exact gone J6 fun t7 J7 => ⟨_, _, J7, q6⟩
      exact each hh todo) PassesOwn.looking).run [] s0 τ G D (inv.toTry _) wish
  refine wpAny_Try_except (wpAny_mono run (fun fl t1 end1 => ?_) fun _ _ z => z)
  cases fl with
  | ret u =>
    obtain ⟨v1, τ1, G1, J1, r1, q1⟩ := end1
    exact ⟨v1, τ1, G1, J1.ofTry okX, r1, q1⟩
  | next =>
    obtain ⟨τ1, G1, J1, q1⟩ := end1
    exact wpAny_execs_nil ⟨τ1, G1, J1.ofTry okX, q1⟩
  | brk => obtain ⟨τ1, G1, J1, q1⟩ := end1; exact ⟨τ1, G1, J1.ofTry okX, q1⟩
  | cont => obtain ⟨τ1, G1, J1, q1⟩ := end1; exact ⟨τ1, G1, J1.ofTry okX, q1⟩
end
end Kf

set_option Elab.async false
set_option linter.all false
set_option maxRecDepth 100000
set_option maxHeartbeats 4000000
namespace Kf
open PySem L2 Evl
/-! ### != of the same data, of any kind -/
def rNeG (K : PySem.W.Frag) : R2 := fun x y H Q => ∃ d, Rp K H x d ∧ Rp K H y d ∧ d.dep ≤ 60 ∧ Q (.bl false) H
theorem hits_same {A : Around} {s : Shared} {kb : List (Key × Value)} : ∀ {ka : List (Key × Value)}, (∀ k v, (k, v) ∈ ka → PySem.valueAt kb k = some v) → PySem.W.KeqHits A s kb ka true
  | [], _ => .nil
  | (k, v) :: r, h => .hit (e := true) (b := true) (h k v List.mem_cons_self) (SeqAt.EqAt.same v) (hits_same fun k' v' hm => h k' v' (List.mem_cons_of_mem _ hm))
section
variable {X : Cx}
theorem op_neG (hu : X.A.units + 64 < cLine) : OpR X (compareOp .NotEq) (rNeG X.K) := by
  intro pins s σ H x y v u Q I rx ry h
  obtain ⟨d, hx, hy, hz, q⟩ := h
  cases d with
  | lst ds => exact op_neP hu pins s σ H x y v u Q I rx ry ⟨_, ds, hx, hy, rfl, hz, q⟩
  | tup ds => exact op_neP hu pins s σ H x y v u Q I rx ry ⟨_, ds, hx, hy, rfl, hz, q⟩
  | non =>
    cases hx; cases hy
    exact op_ne pins s σ H _ _ v u Q I rx ry ⟨rfl, by rw [decide_eq_true rfl]; exact q⟩
  | bl b =>
    cases hx; cases hy
    exact op_ne pins s σ H _ _ v u Q I rx ry ⟨rfl, by rw [decide_eq_true rfl]; exact q⟩
  | int i =>
    cases hx; cases hy
    exact op_ne pins s σ H _ _ v u Q I rx ry ⟨rfl, by rw [decide_eq_true rfl]; exact q⟩
  | str z =>
    cases hx; cases hy
    exact op_ne pins s σ H _ _ v u Q I rx ry ⟨rfl, by rw [decide_eq_true rfl]; exact q⟩
  | dic a =>
    cases hx with
    | @dic _ kvs e =>
    cases hy
    cases (show v = Value.ref a from rx)
    cases (show u = Value.ref a from ry)
    obtain ⟨_, ya, vs, _, dd⟩ := dk_of I.hok e
    have nd : (vs.map (·.1)).Nodup := by
      obtain ⟨_, _, _, _, _, _, _, _, nd⟩ := id dd
      exact nd
    refine PySem.W.keq_ne ya ya dd dd (by omega) (fun _ => hits_same fun k w hm => PySem.valueAt_of_mem nd hm) ?_
    rw [beq_self_eq_true]
    exact ⟨.bl false, H, I, rfl, q⟩
end
end Kf

set_option Elab.async false
set_option linter.all false
set_option maxRecDepth 100000
set_option maxHeartbeats 4000000
namespace Kf
open PySem L2 Evl
abbrev sLawWhole : Stmt := top 29
theorem scLawWhole : FnScope ["value"] ["value"] (defScope sLawWhole) := ⟨rfl, rfl, rfl, by decide +kernel, rfl, by decide +kernel, by decide +kernel⟩
abbrev sLawOutcome : Stmt := top 43
theorem scLawOutcome : FnScope ["door", "given", "row", "told", "e"] ["door", "given", "row"] (defScope sLawOutcome) := ⟨rfl, rfl, rfl, by decide +kernel, rfl, by decide +kernel, by decide +kernel⟩
def OutFine (K : PySem.W.Frag) : Pr := fun v H => ∃ t, v = .ref t ∧ SqT K H t [.str "fine"]
def OutBad (K : PySem.W.Frag) (b : List Int) : Pr := fun v H => ∃ t q, v = .ref t ∧ SqT K H t [.str "bad", .ref q] ∧ SqT K H q (b.map V.int)
def spOutcome (K : PySem.W.Frag) : Sp := fun vs H Q _ => ∃ (door : Int) (x : V) (d : Py) (r : Addr) (y z u : Int), vs = [.int door, x, .ref r] ∧ (0 ≤ door ∧ door ≤ 2) ∧ Rp K H x d ∧ Sq K H r [.int y, .int z, .int u] ∧
  ((∃ b, Bad8 d b ∧ ∀ v H', Ex H H' → OutBad K b v H' → Q v H') ∨ ∃ c, Good8 d c ∧ ∀ v H', Ex H H' → OutFine K v H' → Q v H')
section
variable {K : PySem.W.Frag} {σ : L2.St} {H H' : Hp} {ta tb te : TE} {tr : TA} {tz : TS} {D : Ends} {C : Addr}
theorem s_tryAsg {sp : Sp} {E : L2.St → XK} {i : Nat} {vs : List V} (h : EvA tr σ H vs) (k : ∀ H1, Ex H H1 → sp vs H1 (fun v H2 => D.nx (σ.set i (some v)) H2) (E σ)) : tAsg (tCallS sp E tr) (gName i) D σ H := h H (Ex.refl H) _ fun H1 e => k H1 e
theorem s_tryDrop {sp : Sp} {E : L2.St → XK} {vs : List V} (h : EvA tr σ H vs) (k : ∀ H1, Ex H H1 → sp vs H1 (fun _ H2 => D.nx σ H2) (E σ)) : tDrop (tCallS sp E tr) D σ H := h H (Ex.refl H) _ fun H1 e => k H1 e
theorem ev_isX {a dd : Addr} {c : V} {cv : Value} {b : Bool} {fs : List (Str × V)} (ha : Ev ta σ H (.ref a)) (hb : Ev tb σ H c) (hc : ∀ u, RelV c u → u = cv) (hk : PySem.W.kitOne K (.ref C) cv = some b) (hd : H dd = some (.xd fs)) :
    Ev (tCB (rIsX K C a (.ref C) (some dd)) (tCons ta (tCons tb tNil))) σ H (.bl b) := fun H1 e Q q =>
  ha H1 e _ fun H2 e2 => hb H2 (e.trans e2) _ fun H3 e3 => ⟨c, cv, b, dd, fs, rfl, hc, rfl, rfl, hk, ((e.trans e2).trans e3) _ _ hd, q H3 (e2.trans e3)⟩
theorem ev_xf {a dd : Addr} {v : V} {fs : List (Str × V)} {f : Str} (ha : Ev ta σ H (.ref a)) (hd : H dd = some (.xd fs)) (hl : fs.lookup f = some v) : Ev (tXf a (.ref C) (some dd) C f ta) σ H v := fun H1 e Q q =>
  ha H1 e _ fun H2 e2 => ⟨rfl, rfl, dd, fs, v, rfl, (e.trans e2) _ _ hd, hl, q H2 e2⟩
theorem rv_notN {x : V} : RV (fun x y H Q => y = .non ∧ Q (.bl (!decide (x = .non))) H) x .non H (.bl (!decide (x = .non))) := fun H1 _ _ q => ⟨rfl, q H1 (Ex.refl H1)⟩
/-- the body of the try -/
def tryBody (K : PySem.W.Frag) (CB CT : Addr) (W : WX) : TS := tIfS (tTest (tOp rEq (tVar 0) (tC (.int 0)))) (tAsg (tCallS (spCheck K CB) (WE W) (tCons (tVar 1) tNil)) (gName 3))
  (tIfS (tTest (tOp rEq (tVar 0) (tC (.int 1)))) (tDrop (tCallS (spManyX K CB CT) (WE W) (tCons (tVar 1) tNil))) (tDrop (tCallS (spHoldsX K CB) (WE W) (tCons (tVar 1) (tCons (tVar 2) tNil)))))
section
variable {CB CT : Addr} {W : WX} {door y z u : Int} {x : V} {d : Py} {r : Addr}
theorem body_bad {b : List Int} (hdoor : 0 ≤ door ∧ door ≤ 2) (hx : Rp K H x d) (hrow : Sq K H r [.int y, .int z, .int u]) (hb : Bad8 d b)
    (k : ∀ H' dd q, Ex H H' → H' dd = some (.xd [("path", .ref q)]) → SqT K H' q (b.map V.int) → W (.ref CB) (some dd) [some (.int door), some x, some (.ref r), some .non, none] H') : tryBody K CB CT W D [some (.int door), some x, some (.ref r), some .non, none] H := by
  refine s_if (et_test (ev_intEq (ev_var rfl) ev_c)) (fun _ H1 e1 => ?_) fun _ H1 e1 => s_if (et_test (ev_intEq (ev_var rfl) ev_c)) (fun _ H2 e2 => ?_) fun _ H2 e2 => ?_
  · exact s_tryAsg (ea_cons (ev_var rfl) ea_nil) fun H2 e2 => check_bad ((hx.mo e1).mo e2) hb (Q := fun _ _ => True) fun H3 dd q e3 => k _ _ _ ((e1.trans e2).trans e3)
  · exact s_tryDrop (ea_cons (ev_var rfl) ea_nil) fun H3 e3 => ⟨x, d, rfl, ((hx.mo e1).mo e2).mo e3, .inl ⟨b, hb, fun H4 dd q e4 => k _ _ _ (((e1.trans e2).trans e3).trans e4)⟩⟩
  · exact s_tryDrop (ea_cons (ev_var rfl) (ea_cons (ev_var rfl) ea_nil)) fun H3 e3 => ⟨x, d, r, y, z, u, rfl, ((hx.mo e1).mo e2).mo e3, ((hrow.ex e1).ex e2).ex e3, .inl ⟨b, hb, fun H4 dd q e4 => k _ _ _ (((e1.trans e2).trans e3).trans e4)⟩⟩
theorem body_good {c : Cl} (hdoor : 0 ≤ door ∧ door ≤ 2) (hx : Rp K H x d) (hrow : Sq K H r [.int y, .int z, .int u]) (hc : Good8 d c) (k : ∀ H', Ex H H' → D.nx [some (.int door), some x, some (.ref r), some .non, none] H')
    (k2 : door = 1 → ∀ H' dd fs, Ex H H' → H' dd = some (.xd fs) → W (.ref CT) (some dd) [some (.int door), some x, some (.ref r), some .non, none] H') : tryBody K CB CT W D [some (.int door), some x, some (.ref r), some .non, none] H := by
  refine s_if (et_test (ev_intEq (ev_var rfl) ev_c)) (fun _ H1 e1 => ?_) fun _ H1 e1 => s_if (et_test (ev_intEq (ev_var rfl) ev_c)) (fun hb H2 e2 => ?_) fun _ H2 e2 => ?_
  · exact s_tryAsg (ea_cons (ev_var rfl) ea_nil) fun H2 e2 => check_good ((hx.mo e1).mo e2) hc fun H3 e3 => k _ ((e1.trans e2).trans e3)
  · exact s_tryDrop (ea_cons (ev_var rfl) ea_nil) fun H3 e3 => ⟨x, d, rfl, ((hx.mo e1).mo e2).mo e3, .inr ⟨c, hc, fun v H4 e4 => k _ (((e1.trans e2).trans e3).trans e4), fun H4 dd fs e4 => k2 (of_decide_eq_true hb) _ _ _ (((e1.trans e2).trans e3).trans e4)⟩⟩
  · exact s_tryDrop (ea_cons (ev_var rfl) (ea_cons (ev_var rfl) ea_nil)) fun H3 e3 => ⟨x, d, r, y, z, u, rfl, ((hx.mo e1).mo e2).mo e3, ((hrow.ex e1).ex e2).ex e3, .inr ⟨c, hc, fun v H4 e4 => k _ (((e1.trans e2).trans e3).trans e4)⟩⟩
end
end
section
variable {P : Program} {w : World} {K : PySem.W.Frag} {mg : Str → Option Value} {base : Heap} {CB CT fB fT : Addr}
theorem df_whole54 (B : Bi mg) (S : At K mg "_law_whole" sLawWhole ["value"]) : Df P w K mg base CX0 "_law_whole" 1 ["value"] (spWhole K) := by
  obtain ⟨f, fd, F, m, b⟩ := S
  refine ⟨f, fd, m, F.kp, b, F.ok scLawWhole (fun vs H Q E h => ?_) (fun cdv A outer s H vs Q E hr h => ?_)⟩
  · obtain ⟨x, d, rfl, _⟩ := h
    rfl
  obtain ⟨x, d, rfl, hd, q⟩ := h
  refine ⟨_, (pss_one (ps_ret (pe_and (pe_callB call_isi rfl B.isinstance PyProof.Rows.boot_isinstance (pa_cons (pv 0) (pa_cons (pe_bltn (v := .ty "int") rfl B.int PyProof.Rows.boot_int rfl) pa_nil))) (pe_one (pe_not (pe_callB call_isi rfl B.isinstance PyProof.Rows.boot_isinstance (pa_cons (pv 0) (pa_cons (pe_bltn (v := .ty "bool") rfl B.bool PyProof.Rows.boot_bool rfl) pa_nil)))))))), ?_⟩
  refine s_ret (v := .bl (isWhole d)) (ev_is (ev_andV (ev_isi (ev_var rfl) hd (isT_int d)) (fun _ => ev_notV (ev_isi (ev_var rfl) hd (isT_bool d)))) ?_) fun H1 e => q H1 e
  cases d <;> rfl
theorem df_outcome {cFewError cTooManyRests cBadForm cBadModulus cBadPart cBadStep cBadText cBadWord cNoRest : Addr} (B : Bi mg) (DCheckClaim : Df P w K mg base (L2N.CX P w) "check_claim" 14 ["claim"] (spCheck K CB)) (DClaimModulus : Df P w K mg base (L2N.CX P w) "claim_modulus" 15 ["claim"] (spManyX K CB CT)) (DHolds : Df P w K mg base (L2N.CX P w) "holds" 15 ["claim", "row"] (spHoldsX K CB))
    (TBadClaim : Xc K mg "BadClaim" "path" CB fB) (TTooManyRests : Xc K mg "TooManyRests" "modulus" CT fT) (mVE : mg "ValueError" = none) (gFewError : mg "FewError" = some (.ref cFewError)) (gTooManyRests : mg "TooManyRests" = some (.ref cTooManyRests)) (gBadForm : mg "BadForm" = some (.ref cBadForm)) (gBadModulus : mg "BadModulus" = some (.ref cBadModulus))
    (gBadPart : mg "BadPart" = some (.ref cBadPart)) (gBadStep : mg "BadStep" = some (.ref cBadStep)) (gBadText : mg "BadText" = some (.ref cBadText)) (gBadWord : mg "BadWord" = some (.ref cBadWord)) (gNoRest : mg "NoRest" = some (.ref cNoRest))
    (i1 : PySem.W.kitOne K (.ref CB) (.ref cFewError) = some true) (i2 : PySem.W.kitOne K (.ref CB) (.type "ValueError") = some true) (i3 : PySem.W.kitOne K (.ref CB) (.ref cTooManyRests) = some false) (i4 : PySem.W.kitOne K (.ref CB) (.ref cBadForm) = some false) (i5 : PySem.W.kitOne K (.ref CB) (.ref cBadModulus) = some false)
    (i6 : PySem.W.kitOne K (.ref CB) (.ref cBadPart) = some false) (i7 : PySem.W.kitOne K (.ref CB) (.ref cBadStep) = some false) (i8 : PySem.W.kitOne K (.ref CB) (.ref cBadText) = some false) (i9 : PySem.W.kitOne K (.ref CB) (.ref cBadWord) = some false) (i10 : PySem.W.kitOne K (.ref CB) (.ref cNoRest) = some false)
    (x1 : PySem.W.exmOne K (.ref CT) (.ref CB) = some false) (S : At K mg "_law_outcome" sLawOutcome ["door", "given", "row"]) : Df P w K mg base CX0 "_law_outcome" 16 ["door", "given", "row"] (spOutcome K) := by
  obtain ⟨f, fd, F, m, b⟩ := S
  refine ⟨f, fd, m, F.kp, b, F.ok scLawOutcome (fun vs H Q E h => ?_) (fun cdv A outer s H vs Q E hr h => ?_)⟩
  · obtain ⟨door, x, d, r, y, z, u, rfl, _⟩ := h
    rfl
  obtain ⟨door, x, d, r, y, z, u, rfl, hdoor, hx, hrow, hh⟩ := h
  refine ⟨_, (pss_cons (ps_set (i := 3) scLawOutcome.nd rfl (Or.inl rfl) pe_non)
  (pss_cons (ps_try_mix rfl rfl scLawOutcome.nd takesN
  (fun W pn xe tk _ => (pss_one (ps_if (pt_cmpR op_eq (pv 0) pe_int (nomark _)) (pss_one (ps_set (i := 3) scLawOutcome.nd rfl (Or.inl rfl) (pe_dfS DCheckClaim hr (fun σ => L2N.passAt tk σ) (pa_cons (pv 1) pa_nil)))) (pss_one (ps_if (pt_cmpR op_eq (pv 0) pe_int (nomark _)) (pss_one (ps_expr (pe_dfS DClaimModulus hr (fun σ => L2N.passAt tk σ) (pa_cons (pv 1) pa_nil)))) (pss_one (ps_expr (pe_dfS DHolds hr (fun σ => L2N.passAt tk σ) (pa_cons (pv 1) (pa_cons (pv 2) pa_nil))))))))))
  (MixOk.cons (o := (some 4)) ⟨rfl, by decide, .inl TBadClaim.gC⟩ ⟨rfl, rfl⟩
  (fun a oe cls d pn hz hf => (pss_cons (ps_if (PW.pt (pw_or (pt_not (pt_val (pe_callB (call_isX TBadClaim hz.zc hf) rfl B.isinstance PyProof.Rows.boot_isinstance (pa_cons (pv 4) (pa_cons (pe_glob (v := .ref cFewError) rfl gFewError rfl) pa_nil))))) (pw_or (pt_not (pt_val (pe_callB (call_isX TBadClaim hz.zc hf) rfl B.isinstance PyProof.Rows.boot_isinstance (pa_cons (pv 4) (pa_cons (pe_bltn (v := .ty "ValueError") rfl mVE (by decide +kernel) rfl) pa_nil))))) (pw_or (pt_val (pe_callB (call_isX TBadClaim hz.zc hf) rfl B.isinstance PyProof.Rows.boot_isinstance (pa_cons (pv 4) (pa_cons (pe_glob (v := .ref cTooManyRests) rfl gTooManyRests rfl) pa_nil)))) (pw_or1 (pt_val (pe_callB (call_isX TBadClaim hz.zc hf) rfl B.isinstance PyProof.Rows.boot_isinstance (pa_cons (pv 4) (pa_cons (pe_glob (v := .ref cBadForm) rfl gBadForm rfl) pa_nil))))))))) (pss_one (ps_ret (pe_tup (pa_cons pe_str pa_nil)))) pss_nil)
  (pss_cons (ps_if (PW.pt (pw_or (pt_val (pe_callB (call_isX TBadClaim hz.zc hf) rfl B.isinstance PyProof.Rows.boot_isinstance (pa_cons (pv 4) (pa_cons (pe_glob (v := .ref cBadModulus) rfl gBadModulus rfl) pa_nil)))) (pw_or (pt_val (pe_callB (call_isX TBadClaim hz.zc hf) rfl B.isinstance PyProof.Rows.boot_isinstance (pa_cons (pv 4) (pa_cons (pe_glob (v := .ref cBadPart) rfl gBadPart rfl) pa_nil)))) (pw_or (pt_val (pe_callB (call_isX TBadClaim hz.zc hf) rfl B.isinstance PyProof.Rows.boot_isinstance (pa_cons (pv 4) (pa_cons (pe_glob (v := .ref cBadStep) rfl gBadStep rfl) pa_nil)))) (pw_or1 (pt_val (pe_callB (call_isX TBadClaim hz.zc hf) rfl B.isinstance PyProof.Rows.boot_isinstance (pa_cons (pv 4) (pa_cons (pe_glob (v := .ref cBadText) rfl gBadText rfl) pa_nil))))))))) (pss_one (ps_ret (pe_tup (pa_cons pe_str pa_nil)))) pss_nil)
  (pss_cons (ps_if (PW.pt (pw_or (pt_val (pe_callB (call_isX TBadClaim hz.zc hf) rfl B.isinstance PyProof.Rows.boot_isinstance (pa_cons (pv 4) (pa_cons (pe_glob (v := .ref cBadWord) rfl gBadWord rfl) pa_nil)))) (pw_or1 (pt_val (pe_callB (call_isX TBadClaim hz.zc hf) rfl B.isinstance PyProof.Rows.boot_isinstance (pa_cons (pv 4) (pa_cons (pe_glob (v := .ref cNoRest) rfl gNoRest rfl) pa_nil))))))) (pss_one (ps_ret (pe_tup (pa_cons pe_str pa_nil)))) pss_nil)
  (pss_one (ps_ret (pe_tup (pa_cons pe_str (pa_cons (pe_xf TBadClaim.xf TBadClaim.noF hz.zc hf (pv 4)) pa_nil))))))))) (MixOk.cons (o := none) ⟨rfl, by decide, .inl TTooManyRests.gC⟩ trivial
  (fun a oe cls d pn hz hf => (pss_one (ps_ret (pe_tup (pa_cons (pe_ix (r := rIxL K) ix_list (pe_lst (pa_cons pe_str (pa_cons pe_str (pa_cons pe_str pa_nil)))) (pv 0) (fun _ _ => rfl)) pa_nil))))) MixOk.nil)))
  (pss_cons (ps_if (pt_cmpR op_notN (pv 3) pe_non (nomark _)) (pss_one (ps_ret (pe_tup (pa_cons pe_str pa_nil)))) pss_nil)
  (pss_one (ps_ret (pe_tup (pa_cons pe_str pa_nil))))))), ?_⟩
  have ref : ∀ {D : Addr} (u : Value), RelV (.ref D) u → u = .ref D := fun u h => h
  have cl : ∀ {T : String} (u : Value), RelV (.ty T) u → u = .type T := fun u h => h
  refine q_asg ev_c fun H1 e1 => ?_
  show tSeq (fun D σ H => tryBody K CB CT (wMix K (fun _ _ _ _ => False) D _) D σ H) _ _ _ _
  rcases hh with ⟨b, hb, q⟩ | ⟨c, hc, q⟩
  · refine body_bad hdoor (hx.mo e1) (hrow.ex e1) hb fun H2 dd pq e2 hdd hpq => ?_
    refine ⟨true, TBadClaim.te, fun _ a ha => ?_, fun z => nomatch z⟩
    refine q_when (b := false) (et_is (et_or (et_not (et_B (ev_isX (ev_var rfl) ev_c ref i1 hdd))) fun _ => et_or (et_not (et_B (ev_isX (ev_var rfl) ev_c cl i2 hdd))) fun _ => et_or (et_B (ev_isX (ev_var rfl) ev_c ref i3 hdd)) fun _ => et_B (ev_isX (ev_var rfl) ev_c ref i4 hdd)) rfl) (fun z => nomatch z) fun _ H3 e3 => ?_
    have hd3 := e3 _ _ hdd
    refine q_when (b := false) (et_is (et_or (et_B (ev_isX (ev_var rfl) ev_c ref i5 hd3)) fun _ => et_or (et_B (ev_isX (ev_var rfl) ev_c ref i6 hd3)) fun _ => et_or (et_B (ev_isX (ev_var rfl) ev_c ref i7 hd3)) fun _ => et_B (ev_isX (ev_var rfl) ev_c ref i8 hd3)) rfl) (fun z => nomatch z) fun _ H4 e4 => ?_
    have hd4 := e4 _ _ hd3
    refine q_when (b := false) (et_is (et_or (et_B (ev_isX (ev_var rfl) ev_c ref i9 hd4)) fun _ => et_B (ev_isX (ev_var rfl) ev_c ref i10 hd4)) rfl) (fun z => nomatch z) fun _ H5 e5 => ?_
    have hd5 := e5 _ _ hd4
    refine s_retP (P := OutBad K b) (evp_U (eu_tup (ea_cons ev_c (ea_cons (ev_xf (ev_var rfl) hd5 rfl) ea_nil)) (by show 2 ≤ 100000; decide)) fun p H6 e6 h6 => ⟨p, pq, rfl, st_of h6, ex_t (((e3.trans e4).trans e5).trans e6) hpq⟩) fun v H6 e6 hv => q v H6 (((((e1.trans e2).trans e3).trans e4).trans e5).trans e6) hv
  · have rest : ∀ {σ : L2.St} {H2 : Hp}, Ex H H2 → σ[3]? = some (some .non) → tSeq (tIfS (tTest (tOp (fun x y H Q => y = .non ∧ Q (.bl (!decide (x = .non))) H) (tVar 3) (tC .non))) (tRet (tTup (tCons (tC (.str "odd")) tNil))) tNext) (tRet (tTup (tCons (tC (.str "fine")) tNil))) { nx := fun _ H' => Q .non H', rt := Q } σ H2 := fun {σ H2} e2 h3 => by
      refine q_when (b := false) (et_test (ev_op (ev_var h3) ev_c rv_notN)) (fun z => nomatch z) fun _ H3 e3 => ?_
      exact s_retP (P := OutFine K) (evp_U (eu_tup (ea_cons ev_c ea_nil) (by show 1 ≤ 100000; decide)) fun p H6 e6 h6 => ⟨p, rfl, st_of h6⟩) fun v H6 e6 hv => q v H6 ((e2.trans e3).trans e6) hv
    refine body_good hdoor (hx.mo e1) (hrow.ex e1) hc (fun H2 e2 => rest (e1.trans e2) rfl) fun hd1 H2 dd fs e2 hdd => ?_
    refine ⟨false, x1, fun z => absurd z (by decide), fun _ => ⟨true, TTooManyRests.te, fun _ a ha => ?_, fun z => nomatch z⟩⟩
    subst hd1
    exact s_retP (P := OutFine K) (evp_U (eu_tup (ea_cons (ev_opL1 (el_lst (ea_cons ev_c (ea_cons ev_c (ea_cons ev_c ea_nil))) (by show 3 ≤ 100000; decide)) (fun H1 e => ev_var rfl) fun p H1 hp _ => rv_ixL (v := .str "fine") (sq_of hp) rfl) ea_nil) (by show 1 ≤ 100000; decide)) fun p H6 e6 h6 => ⟨p, rfl, st_of h6⟩) fun v H6 e6 hv => q v H6 ((e1.trans e2).trans e6) hv
end
end Kf

set_option Elab.async false
set_option linter.all false
set_option maxRecDepth 100000
set_option maxHeartbeats 4000000
namespace Kf
open PySem L2 Evl
def spAsked (K : PySem.W.Frag) : Sp := fun vs H Q _ => ∃ (v pv0 : V) (mode : Int) (r : Addr) (d : Py) (y z u : Int), vs = [v, .int mode, .ref r, pv0] ∧ Rp K H v d ∧ d.dep ≤ 60 ∧ d.thin = true ∧ Sq K H r [.int y, .int z, .int u] ∧
  ((pv0 = .non ∧ ∃ c, Good8 d c) ∨ ∃ q b, pv0 = .ref q ∧ SqT K H q (b.map V.int) ∧ Bad8 d b) ∧ RetV (.bl true) H Q
theorem good_hand {d : Py} {c : Cl} {mode : Int} (h : Good8 d c) : Good8 (handD mode 0 d) c := ⟨(fbad_hand 8 0 d []).trans h.1, isCl_hand c 0 d h.2.1, h.2.2⟩
theorem bad_hand {d : Py} {b : List Int} {mode : Int} (h : Bad8 d b) : Bad8 (handD mode 0 d) b := (fbad_hand 8 0 d []).trans h
theorem fbad_len : ∀ (n : Nat) (d : Py) (p b : List Int), p.length + n = 8 → fbad n d p = some b → b.length ≤ 8 := by
  intro n
  induction n with
  | zero => intro d p b hp h; cases h; omega
  | succ n ih =>
    intro d p b hp h
    have h' : (if shapeB d p.length then fkids (fbad n) (kidsOf d) 1 p else some p) = some b := h
    split at h'
    · generalize kidsOf d = ks at h'
      generalize (1 : Int) = j at h'
      induction ks generalizing j with
      | nil => cases h'
      | cons k ks ih2 =>
        cases hk : fbad n k (p ++ [j]) with
        | some b2 =>
          rw [fkids_some hk] at h'
          cases h'
          exact ih k _ _ (by rw [List.length_append]; show p.length + 1 + n = 8; omega) hk
        | none =>
          rw [fkids_none hk] at h'
          exact ih2 _ h'
    · cases h'; omega
section
variable {K : PySem.W.Frag} {σ : L2.St} {H H' : Hp} {ta tb te : TE} {x y : V} {d : Py}
theorem rv_neG (hx : Rp K H x d) (hy : Rp K H y d) (hz : d.dep ≤ 60) : RV (rNeG K) x y H (.bl false) := fun H1 e _ q => ⟨d, hx.mo e, hy.mo e, hz, q H1 (Ex.refl H1)⟩
theorem rv_isN : RV (fun x y H Q => y = .non ∧ Q (.bl (decide (x = .non))) H) x .non H (.bl (decide (x = .non))) := fun H1 _ _ q => ⟨rfl, q H1 (Ex.refl H1)⟩
theorem sv_handed {mode : Int} {n : Nat} (hx : Rp K H x d) (hz : d.dep ≤ n) (ht : d.thin = true) : SpP (spHanded K n) [x, .int mode, .int 0] H fun w H1 => Rp K H1 w (handD mode 0 d) := fun H1 e Q q E =>
  ⟨x, d, mode, 0, [], rfl, by rw [delL_nil]; exact hx.mo e, (fun b z => nomatch z), hz, ht, fun v H2 e2 hv => q v H2 e2 (by rw [delL_nil] at hv; exact hv)⟩
theorem ev_neHand {mode : Int} {n : Nat} {E : XK} {g : V} {td : TE} (hg : Ev ta σ H g) (hd : Rp K H g (handD mode 0 d)) (h1 : Ev tb σ H x) (h2 : Ev te σ H (.int mode)) (h3 : Ev td σ H (.int 0)) (hx : Rp K H x d) (hz : d.dep ≤ n) (hz2 : d.dep ≤ 60) (ht : d.thin = true) :
    Ev (tOp (rNeG K) ta (tCall (spHanded K n) [] E (tCons tb (tCons te (tCons td tNil))))) σ H (.bl false) :=
  ev_evp (evp_op (P1 := fun v _ => v = g) (P2 := fun w H => Rp K H w (handD mode 0 d)) (evp_ev hg fun _ _ => rfl) (fun v H1 e1 hv => evp_call (ea_cons (h1.mono e1) (ea_cons (h2.mono e1) (ea_cons (h3.mono e1) ea_nil))) (sv_handed (hx.mo e1) hz ht)) fun v w H2 e2 hw h0 Q q => by
    obtain ⟨H0, _, _, rfl⟩ := h0
    exact ⟨_, hd.mo e2, hw, by rw [hand_dep]; exact hz2, q _ _ (Ex.refl H2) rfl⟩)
end
section
variable {P : Program} {w : World} {K : PySem.W.Frag} {mg : Str → Option Value} {base : Heap}
abbrev sLawAsked : Stmt := top 44
theorem scLawAsked : FnScope ["tree", "mode", "row", "path", "door", "given", "outcome", "number"] ["tree", "mode", "row", "path"] (defScope sLawAsked) := ⟨rfl, rfl, rfl, by decide +kernel, rfl, by decide +kernel, by decide +kernel⟩
theorem df_asked54 (B : Bi mg) (DLawHanded : Df P w K mg base CX0 "_law_handed" 61 ["thing", "mode", "depth"] (spHanded K 60)) (DLawOutcome : Df P w K mg base CX0 "_law_outcome" 16 ["door", "given", "row"] (spOutcome K)) (DLawWhole : Df P w K mg base CX0 "_law_whole" 1 ["value"] (spWhole K)) (S : At K mg "_law_asked" sLawAsked ["tree", "mode", "row", "path"]) :
    Df P w K mg base CX0 "_law_asked" 62 ["tree", "mode", "row", "path"] (spAsked K) := by
  obtain ⟨f, fd, F, m, b⟩ := S
  refine ⟨f, fd, m, F.kp, b, F.ok scLawAsked (fun vs H Q E h => ?_) (fun cdv A outer s H vs Q E hr h => ?_)⟩
  · obtain ⟨v, pv0, mode, r, d, y, z, u, rfl, _⟩ := h
    rfl
  obtain ⟨v, pv0, mode, r, d, y, z, u, rfl, hv, hdep, hth, hrow, hh, q⟩ := h
  refine ⟨_, (pss_cons (ps_for PassesOwn.never rfl (pi_range1 rfl B.range (pa_cons pe_int pa_nil)) (pg_name (i := 4) scLawAsked.nd rfl (Or.inl rfl)) (pss_cons (ps_set (i := 5) scLawAsked.nd rfl (Or.inl rfl) (pe_df DLawHanded hr pass0 (pa_cons (pv 0) (pa_cons (pv 1) (pa_cons pe_int pa_nil)))))
  (pss_cons (ps_set (i := 6) scLawAsked.nd rfl (Or.inl rfl) (pe_df DLawOutcome hr pass0 (pa_cons (pv 4) (pa_cons (pv 5) (pa_cons (pv 2) pa_nil)))))
  (pss_cons (ps_if (pt_cmpR (op_neG (hu64 hr)) (pv 5) (pe_df DLawHanded hr pass0 (pa_cons (pv 0) (pa_cons (pv 1) (pa_cons pe_int pa_nil)))) (nomark _)) (pss_one (ps_ret pe_bl)) pss_nil)
  (pss_one (ps_if (pt_cmpR op_isN (pv 3) pe_non (nomark _)) (pss_one (ps_if (pt_cmpR (op_neG (hu64 hr)) (pv 6) (pe_tup (pa_cons pe_str pa_nil)) (nomark _)) (pss_one (ps_ret pe_bl)) pss_nil)) (pss_cons (ps_if (PW.pt (pw_or (pt_cmpR op_ne (pe_ix ix_tup (pv 6) pe_int (fun _ _ => rfl)) pe_str (nomark _)) (pw_or (pt_not (pt_val (pe_callB call_isi rfl B.isinstance PyProof.Rows.boot_isinstance (pa_cons (pe_ix ix_tup (pv 6) pe_int (fun _ _ => rfl)) (pa_cons (pe_bltn (v := .ty "tuple") rfl B.tuple PyProof.Rows.boot_tuple rfl) pa_nil))))) (pw_or1 (pt_cmpR op_ne (pe_callB call_len_seq rfl B.len PySem.boot_len (pa_cons (pe_ix ix_tup (pv 6) pe_int (fun _ _ => rfl)) pa_nil)) (pe_callB call_len_seq rfl B.len PySem.boot_len (pa_cons (pv 3) pa_nil)) (nomark _)))))) (pss_one (ps_ret pe_bl)) pss_nil)
  (pss_cons (ps_for PassesOwn.never rfl (pi_tup (pe_ix ix_tup (pv 6) pe_int (fun _ _ => rfl))) (pg_name (i := 7) scLawAsked.nd rfl (Or.inl rfl)) (pss_one (ps_if (pt_not (pt_val (pe_df DLawWhole hr pass0 (pa_cons (pv 7) pa_nil)))) (pss_one (ps_ret pe_bl)) pss_nil)))
  (pss_one (ps_if (pt_cmpR (op_neG (hu64 hr)) (pe_ix ix_tup (pv 6) pe_int (fun _ _ => rfl)) (pv 3) (nomark _)) (pss_one (ps_ret pe_bl)) pss_nil))))))))))
  (pss_one (ps_ret pe_bl))), ?_⟩
  refine q_forR1 (n := 3) (ea_cons ev_c ea_nil) ⟨by decide, by decide⟩ (fun i σ' H' => ∃ (o4 o5 o6 o7 : Option V), σ' = [some v, some (.int mode), some (.ref r), some pv0, o4, o5, o6, o7] ∧ Ex H H') (fun H1 e1 => ⟨none, none, none, none, rfl, e1⟩) ?_ ?_
  · rintro i σ' H' hi ⟨o4, o5, o6, o7, rfl, e0⟩
    refine q_asgP (evp_call (ea_cons (ev_var rfl) (ea_cons (ev_var rfl) (ea_cons ev_c ea_nil))) (sv_handed (hv.mo e0) hdep hth)) fun g H1 e1 hg => ?_
    have e01 := e0.trans e1
    rcases hh with ⟨rfl, c, hc⟩ | ⟨pq, b, rfl, hpq, hb⟩
    · refine q_asgP (P := OutFine K) (evp_call (ea_cons (ev_var rfl) (ea_cons (ev_var rfl) (ea_cons (ev_var rfl) ea_nil))) fun H2 e2 Q' q' E' => ⟨(i : Int), g, handD mode 0 d, r, y, z, u, rfl, by omega, hg.mo e2, (hrow.ex e01).ex e2, .inr ⟨c, good_hand hc, fun v H3 e3 h3 => q' v H3 e3 h3⟩⟩) fun vo H2 e2 ho => ?_
      obtain ⟨t, rfl, ht⟩ := ho
      refine q_when (b := false) (et_test (ev_neHand (ev_var rfl) (hg.mo e2) (ev_var rfl) (ev_var rfl) ev_c (hv.mo (e01.trans e2)) hdep hdep hth)) (fun z => nomatch z) fun _ H3 e3 => ?_
      refine s_if (b := true) (et_test (ev_is (ev_op (ev_var rfl) ev_c rv_isN) (by rw [decide_eq_true rfl]))) (fun _ H4 e4 => ?_) fun z => nomatch z
      refine s_when (b := false) (et_test (ev_opU (ev_var rfl) (eu_tup (ea_cons ev_c ea_nil) (by show 1 ≤ 100000; decide)) fun p H5 h5 e5 => rv_neG (d := .tup [.str "fine"]) (.tup (ex_t ((e3.trans e4).trans e5) ht) (.cons (.str _) .nil)) (.of_tup h5 (.cons (.str _) .nil)) (by show 1 ≤ 60; decide))) (fun z => nomatch z) fun _ H5 e5 => ⟨_, _, _, _, rfl, (((e01.trans e2).trans e3).trans e4).trans e5⟩
    · have hb8 := fbad_len 8 d [] b rfl hb
      refine q_asgP (P := OutBad K b) (evp_call (ea_cons (ev_var rfl) (ea_cons (ev_var rfl) (ea_cons (ev_var rfl) ea_nil))) fun H2 e2 Q' q' E' => ⟨(i : Int), g, handD mode 0 d, r, y, z, u, rfl, by omega, hg.mo e2, (hrow.ex e01).ex e2, .inl ⟨b, bad_hand hb, fun v H3 e3 h3 => q' v H3 e3 h3⟩⟩) fun vo H2 e2 ho => ?_
      obtain ⟨t, tq, rfl, ht, htq⟩ := ho
      refine q_when (b := false) (et_test (ev_neHand (ev_var rfl) (hg.mo e2) (ev_var rfl) (ev_var rfl) ev_c (hv.mo (e01.trans e2)) hdep hdep hth)) (fun z => nomatch z) fun _ H3 e3 => ?_
      refine s_if (b := false) (et_test (ev_is (ev_op (ev_var rfl) ev_c rv_isN) (by rw [decide_eq_false (fun z => nomatch z)]))) (fun z => nomatch z) fun _ H4 e4 => ?_
      have e24 := e3.trans e4
      have ht4 := ex_t e24 ht
      have htq4 := ex_t e24 htq
      have hpq4 := ex_t ((e01.trans e2).trans e24) hpq
      have it : ∀ {H' : Hp} {σ : L2.St}, Ex H4 H' → σ[6]? = some (some (.ref t)) → Ev (tOp (rIxT K) (tVar 6) (tC (.int 1))) σ H' (.ref tq) := fun e hs => ev_op (ev_var hs) ev_c (rv_ixT (ex_t e ht4) rfl)
      refine q_when (b := false) (et_is (et_or (et_test (ev_strNe (ev_op (ev_var rfl) ev_c (rv_ixT ht4 rfl)) ev_c)) fun _ => et_or (et_not (et_B (ev_isi (it (Ex.refl _) rfl) (.tup htq4 (RpAll.ints b)) (isT_tuple _)))) fun _ => et_test (ev_op (ev_lenQ (it (Ex.refl _) rfl) (.inr htq4)) (ev_lenQ (ev_var rfl) (.inr hpq4)) (rv_ne rfl))) (by simp)) (fun z => nomatch z) fun _ H5 e5 => ?_
      refine q_forT (it e5 rfl) (ex_t e5 htq4) (fun k σ' H' => ∃ o7, σ' = [some v, some (.int mode), some (.ref r), some (.ref pq), some (.int (i : Int)), some g, some (.ref t), o7] ∧ Ex H5 H') (fun H6 e6 => ⟨_, rfl, e6⟩) (fun k σ' H' _ h => by
        obtain ⟨_, _, e6⟩ := h
        exact ex_t (e5.trans e6) htq4) ?_ ?_
      · rintro k x σ' H' hk ⟨o8, rfl, e6⟩
        obtain ⟨n, hn, rfl⟩ := map_get hk
        exact s_when (b := false) (et_is (et_not (et_B (ev_callV (ea_cons (ev_var rfl) ea_nil) (sv_whole (.int n))))) rfl) (fun z => nomatch z) fun _ H7 e7 => ⟨_, rfl, e6.trans e7⟩
      · rintro σ' H' ⟨o8, rfl, e6⟩
        exact s_when (b := false) (et_test (ev_op (it (e5.trans e6) rfl) (ev_var rfl) (rv_neG (d := .tup (b.map Py.int)) (.tup (ex_t (e5.trans e6) htq4) (RpAll.ints b)) (.tup (ex_t (e5.trans e6) hpq4) (RpAll.ints b)) (by
          have : ∀ l : List Int, Py.deps (l.map Py.int) = 0 := fun l => by
            induction l with
            | nil => rfl
            | cons x l ih => show max 0 (Py.deps (l.map Py.int)) = 0; rw [ih]; rfl
          show Py.deps (b.map Py.int) + 1 ≤ 60
          rw [this]
          decide)))) (fun z => nomatch z) fun _ H7 e7 => ⟨_, _, _, _, rfl, (((e01.trans e2).trans e24).trans (e5.trans e6)).trans e7⟩
  · rintro σ' H' ⟨o4, o5, o6, o7, rfl, e0⟩
    exact s_ret ev_c fun H1 e1 => q _ (e0.trans e1)
end
end Kf

set_option Elab.async false
set_option linter.all false
set_option maxRecDepth 100000
set_option maxHeartbeats 4000000
namespace Kf
open PySem L2 Evl
/-! ### what the trees are -/
theorem good_cl {c : Cl} (ok : c.Ok) (hd : c.depth ≤ 8) : Good8 c.tr.data c := by
  refine ⟨?_, c.tr_is, ok, hd⟩
  rw [fbad_data 8 c.tr [] (Cl.tr_ok ok) rfl]
  unfold Tr.bad
  rw [Cl.tr_first 8 c hd, if_neg (Nat.lt_irrefl _)]
theorem bad_tr {t : Tr} {q : List Int} (ok : t.Ok) (h : Tr.first 8 t < t.size) (hq : t.paths[Tr.first 8 t]? = some q) : Bad8 t.data q := by
  show fbad 8 t.data [] = some q
  rw [fbad_data 8 t [] ok rfl]
  unfold Tr.bad
  rw [if_pos h, hq] <;> rfl
theorem bad_put {t : Tr} {i : Nat} {d : Py} {q : List Int} (ok : t.Ok) (hi : i < t.size) (hd : BadD d) (hq : t.paths[min i (Tr.first 8 t)]? = some q) : Bad8 (t.put i (.x d)).data q := by
  have e := Tr.first_put d 8 t i hi
  have g := Tr.put_gt (.x d) t i hi
  refine bad_tr (ok_put hd t i ok) (by rw [e]; omega) ?_
  rw [e, Tr.path_put (.x d) t i _ (Nat.min_le_left _ _) hi]
  exact hq
theorem path_short {c : Cl} {i : Nat} {q : List Int} (hd : c.depth ≤ 12) (h : c.tr.paths[i]? = some q) : q.length ≤ 1000 := by
  have k := (Cl.tr_at 12 c i q h).1
  rw [Cl.tr_first 12 c hd, ← c.tr.paths_len] at k
  have := k (List.getElem?_eq_some_iff.mp h).1
  omega
theorem path_some {t : Tr} {i : Nat} (h : i < t.size) : ∃ q, t.paths[i]? = some q := ⟨_, List.getElem?_eq_getElem (by rw [t.paths_len]; exact h)⟩
def IsInt : Pr := fun v _ => ∃ c : Int, v = .int c
def PathsAt (K : PySem.W.Frag) (c : Cl) : Pr := fun v H => ∃ p ws, v = .ref p ∧ H p = some (.lst ws) ∧ Both (PathAt K H) ws c.tr.paths
section
variable {K : PySem.W.Frag} {σ : L2.St} {H H' : Hp} {ta tb tc td te tm tn tl tp tw : TE} {tr : TA} {E E2 : XK} {tz : TS} {D : Ends}
theorem evp_cell {a : Addr} {ns : List Int} {i : Int} (k : Nat) (ha : Ev ta σ H (.ref a)) (h : SqL K H a (ns.map V.int)) (e : i = (k : Int)) (hk : k ≤ 100) : EvP (tCall (spCell K) [] E (tCons ta (tCons (tC (.int i)) tNil))) σ H IsInt := by
  subst e
  exact evp_call (ea_cons ha (ea_cons ev_c ea_nil)) (sv_cell h hk)
theorem evp_digitsP {xs : List V} (ss : List Int) (ha : EvP tc σ H IsInt) (hb : EvL tb σ H xs) (e : xs = ss.map V.int) (hs : ∀ s ∈ ss, 1 ≤ s ∧ s ≤ 1000000001) (hl : ss.length ≤ 1000) :
    EvP (tCall (spDigits K) [] E (tCons tc (tCons tb tNil))) σ H fun v H1 => ∃ q ds, v = .ref q ∧ DigOk ss ds ∧ H1 q = some (.lst (ds.map V.int)) := by
  subst e
  refine evp_callP (R := fun vs H1 => ∃ (c : Int) (p : Addr), vs = [.int c, .ref p] ∧ H1 p = some (.lst (ss.map V.int))) ?_ fun vs H1 e1 hv => ?_
  · refine eap_cons ha fun v H1 e1 hv => ?_
    obtain ⟨c, rfl⟩ := hv
    refine eap_cons (P := IsL (ss.map V.int)) (evp_L (hb.mono e1) fun p H2 _ h2 => ⟨p, rfl, h2⟩) fun v H2 e2 hv => ?_
    obtain ⟨p, rfl, hp⟩ := hv
    exact fun H3 e3 Q q => q [] H3 (Ex.refl H3) ⟨c, p, rfl, e3 _ _ hp⟩
  · obtain ⟨c, p, rfl, hp⟩ := hv
    exact sv_digits (sq_of hp) hs hl
theorem evp_code {pn pm : Addr} {i : Int} {ms : List Int} {x y z : Int} (most : Nat) (h : EvP tc σ H IsInt) (hn : Ev tn σ H (.ref pn)) (hm : Ev tm σ H (.ref pm)) (h1 : Sq K H pn [.int x, .int y, .int z]) (h2 : SqL K H pm (ms.map V.int)) (om : MenuOk ms) (e : i = (most : Int)) (m1 : 1 ≤ most) (m5 : most ≤ 5) :
    EvP (tCall (spCode K) [] E (tCons tc (tCons tn (tCons tm (tCons (tC (.int i)) tNil))))) σ H fun v H1 => ∃ t : Cl, t.Ok ∧ t.depth ≤ most + 2 ∧ t.leaves ≤ most ∧ IsCodeD K t v H1 := by
  subst e
  refine evp_callP (R := fun vs _ => ∃ c : Int, vs = [.int c, .ref pn, .ref pm, .int (most : Int)]) (eap_cons h fun v H1 e1 hv => ?_) fun vs H1 e1 hv => ?_
  · obtain ⟨c, rfl⟩ := hv
    exact fun H2 e2 Q q => hn H2 (e1.trans e2) _ fun H3 e3 => hm H3 ((e1.trans e2).trans e3) _ fun H4 e4 => q [.ref pn, .ref pm, .int (most : Int)] H4 (e3.trans e4) ⟨c, rfl⟩
  · obtain ⟨c, rfl⟩ := hv
    exact fun H2 e2 Q q E => ⟨c, pn, pm, most, ms, x, y, z, rfl, h1.ex (e1.trans e2), ex_l (e1.trans e2) h2, om, m1, m5, fun t ok hd hl v H3 e3 hv => q v H3 e3 ⟨t, ok, hd, hl, hv⟩⟩
theorem q_asg2R {i j : Nat} {R : V → V → Hp → Prop} (h : EvP te σ H fun v H1 => ∃ a x y, v = .ref a ∧ SqT K H1 a [x, y] ∧ R x y H1) (k : ∀ x y H1, Ex H H1 → R x y H1 → tz D ((σ.set i (some x)).set j (some y)) H1) :
    tSeq (tAsg te (gTup K 2 (gCons (gName i) (gCons (gName j) gNil)))) tz D σ H := h H (Ex.refl H) _ fun v H1 a p => by
  obtain ⟨q, x, y, rfl, hq, r⟩ := p
  exact ⟨q, [x, y], rfl, hq, rfl, x, [y], rfl, y, [], rfl, rfl, k x y H1 a r⟩
/-- a claim as its code stands -/
def CodeOf (K : PySem.W.Frag) (P : Cl → Prop) : Pr := fun v H => ∃ (u : Cl) (p : Addr), v = .ref p ∧ CodeAt K H p u.post ∧ u.Ok ∧ P u
theorem evp_wrapped {pc pn pm : Addr} {t : Cl} {g : Nat} {gi : Int} {ms : List Int} {x y z : Int} {tg tdp : TE} (hpc : Ev tc σ H (.ref pc)) (hdp : Ev tdp σ H (.int (t.depth : Nat))) (hg : Ev tg σ H (.int gi)) (eg : gi = (g : Int)) (hc : EvP te σ H IsInt) (hn : Ev tn σ H (.ref pn)) (hm : Ev tm σ H (.ref pm))
    (h0 : CodeAt K H pc t.post) (ok : t.Ok) (g1 : t.depth ≤ g) (g2 : g ≤ 12) (h1 : Sq K H pn [.int x, .int y, .int z]) (h2 : SqL K H pm (ms.map V.int)) (om : MenuOk ms) :
    EvP (tCall (spWrapped K) [] E (tCons tc (tCons tdp (tCons tg (tCons te (tCons tn (tCons tm tNil))))))) σ H (CodeOf K fun u => u.depth = g ∧ u.leaves + t.depth ≤ t.leaves + g) := by
  subst eg
  refine evp_callP (R := fun vs _ => ∃ c : Int, vs = [.ref pc, .int (t.depth : Nat), .int (g : Int), .int c, .ref pn, .ref pm]) (fun H1 e1 Q q => hpc H1 e1 _ fun H2 e2 => hdp H2 (e1.trans e2) _ fun H3 e3 => hg H3 ((e1.trans e2).trans e3) _ fun H4 e4 => hc H4 (((e1.trans e2).trans e3).trans e4) _ fun v H5 e5 hv => by
    obtain ⟨c, rfl⟩ := hv
    have e15 := (((e1.trans e2).trans e3).trans e4).trans e5
    exact hn H5 e15 _ fun H6 e6 => hm H6 (e15.trans e6) _ fun H7 e7 => q _ H7 (((((e2.trans e3).trans e4).trans e5).trans e6).trans e7) ⟨c, rfl⟩) fun vs H1 e1 hv => ?_
  obtain ⟨c, rfl⟩ := hv
  exact fun H2 e2 Q q E => ⟨pc, pn, pm, t, g, c, ms, x, y, z, rfl, (h0.mo e1).mo e2, ok, g1, g2, (h1.ex e1).ex e2, ex_l (e1.trans e2) h2, om, fun u uok ud ul v H3 e3 hv => by
    obtain ⟨p, rfl, hp⟩ := hv
    exact q _ H3 e3 ⟨u, p, rfl, hp, uok, ud, ul⟩⟩
theorem evp_built {pc : Addr} {t : Cl} (hpc : Ev tc σ H (.ref pc)) (h0 : CodeAt K H pc t.post) (hd : t.depth ≤ 12) : EvP (tCall (spBuilt1 K) [] E (tCons tc (tCons (tC (.int 1)) tNil))) σ H (Tree K H t.tr) :=
  evp_call (ea_cons hpc (ea_cons ev_c ea_nil)) fun H1 e1 Q q E => ⟨pc, t, rfl, h0.mo e1, hd, fun v H2 e2 hv => q v H2 e2 (hv.back e1)⟩
theorem evp_paths {pc : Addr} {t : Cl} (hpc : Ev tc σ H (.ref pc)) (h0 : CodeAt K H pc t.post) (hd : t.depth ≤ 12) (hz : t.tr.size ≤ 499) : EvP (tCall (spPaths K) [] E (tCons (tCall (spBuilt1 K) [] E2 (tCons tc (tCons (tC (.int 1)) tNil))) tNil)) σ H (PathsAt K t) :=
  evp_callP (R := fun vs H1 => ∃ v, vs = [v] ∧ Rp K H1 v t.tr.data) (eap_cons (evp_built hpc h0 hd) fun v H1 e1 hv => fun H2 e2 Q q => q [] H2 (Ex.refl H2) ⟨v, rfl, hv.rp.mo e2⟩) fun vs H1 e1 hv => by
    obtain ⟨v, rfl, hv⟩ := hv
    exact fun H2 e2 Q q E => ⟨v, t, rfl, hv.mo e2, hd, hz, fun p ws H3 e3 hp hb => q _ H3 e3 ⟨p, ws, rfl, hp, hb⟩⟩
theorem PathsAt.mo {c : Cl} {v : V} (h : PathsAt K c v H) (e : Ex H H') : PathsAt K c v H' := by
  obtain ⟨p, ws, h1, h2, h3⟩ := h
  exact ⟨p, ws, h1, e _ _ h2, both_imp (fun v x h => h.ex e) h3⟩
/-- the place of a path -/
theorem ev_path {c : Cl} {p : Addr} {ws : List V} {i : Nat} {q : List Int} {j : Int} (hp : H p = some (.lst ws)) (hb : Both (PathAt K H) ws c.tr.paths) (hv : Ev ta σ H (.ref p)) (hi : Ev tb σ H (.int j)) (ej : j = (i : Int)) (hq : c.tr.paths[i]? = some q) : ∃ pq, Ev (tOp (rIxL K) ta tb) σ H (.ref pq) ∧ SqT K H pq (q.map V.int) := by
  subst ej
  obtain ⟨v, hv1, pq, rfl, hq2⟩ := both_get hb hq
  exact ⟨pq, ev_op hv hi (rv_ixL (sq_of hp) (atI_nat hv1)), hq2⟩
theorem evp_spoil {pc pq pd : Addr} {t : Cl} {i : Nat} {qp ds : List Int} (hpc : Ev tc σ H (.ref pc)) (h0 : CodeAt K H pc t.post) (hd : t.depth ≤ 12) (ok : t.Ok) (hp : Ev tp σ H (.ref pq)) (hq : SqT K H pq (qp.map V.int)) (hpa : t.tr.paths[i]? = some qp) (hdg : Ev td σ H (.ref pd)) (hds : H pd = some (.lst (ds.map V.int))) (dok : DigOk [2520, 30, 30, 3] ds) :
    EvP (tCall (spSpoilt K) [] E (tCons (tCall (spBuilt1 K) [] E2 (tCons tc (tCons (tC (.int 1)) tNil))) (tCons tp (tCons td tNil)))) σ H fun v H1 => ∃ d, BadD d ∧ d.dep ≤ t.tr.data.dep + 3 ∧ d.thin = true ∧ Tree K H (t.tr.put i (.x d)) v H1 := fun H1 e1 Q q => by
  have hi : i < t.tr.size := by
    rw [← t.tr.paths_len]
    exact (List.getElem?_eq_some_iff.mp hpa).1
  refine evp_built (E := E2) (hpc.mono e1) (h0.mo e1) hd H1 (Ex.refl H1) _ fun v H2 e2 hv => hp H2 (e1.trans e2) _ fun H3 e3 => hdg H3 ((e1.trans e2).trans e3) _ fun H4 e4 => ?_
  have e24 := (e2.trans e3).trans e4
  have hdf := (e1.trans e24) _ _ hds
  exact ⟨v, pq, pd, H1, t.tr, i, qp, ds, rfl, e24, hv.mo (e3.trans e4), Cl.tr_ok ok, t.tr_thin, hi, Cl.tr_real t i hi, hpa, path_short hd hpa, ex_t (e1.trans e24) hq, hdf, (e1 _ _ hds).trans hdf.symm, dok, fun d b1 b2 b3 v' H' e' ht => q v' H' e' ⟨d, b1, b2, b3, ht.back e1⟩⟩
theorem ev_ask {d : Py} {pv0 : V} {mode : Int} {r : Addr} {y z u : Int} (hb : EvP tb σ H fun v H1 => Rp K H1 v d) (hm : Ev tm σ H (.int mode)) (hw : Ev tw σ H (.ref r)) (hp : Ev tp σ H pv0) (hr : Sq K H r [.int y, .int z, .int u]) (dd : d.dep ≤ 60) (th : d.thin = true)
    (alt : (pv0 = .non ∧ ∃ c, Good8 d c) ∨ ∃ q b, pv0 = .ref q ∧ SqT K H q (b.map V.int) ∧ Bad8 d b) : Ev (tCall (spAsked K) [] E (tCons tb (tCons tm (tCons tw (tCons tp tNil))))) σ H (.bl true) := ev_evp (by
  refine evp_callP (R := fun vs H1 => ∃ v, vs = [v, .int mode, .ref r, pv0] ∧ Rp K H1 v d) (fun H1 e1 Q q => hb H1 e1 _ fun v H2 e2 hv => hm H2 (e1.trans e2) _ fun H3 e3 => hw H3 ((e1.trans e2).trans e3) _ fun H4 e4 => hp H4 (((e1.trans e2).trans e3).trans e4) _ fun H5 e5 => q _ H5 (((e2.trans e3).trans e4).trans e5) ⟨v, rfl, hv.mo ((e3.trans e4).trans e5)⟩) fun vs H1 e1 hv => ?_
  obtain ⟨v, rfl, hv⟩ := hv
  exact fun H2 e2 Q q E => ⟨v, pv0, mode, r, d, y, z, u, rfl, hv.mo e2, dd, th, (hr.ex e1).ex e2, by
    rcases alt with h | ⟨qq, b, h1, h2, h3⟩
    · exact .inl h
    · exact .inr ⟨qq, b, h1, ex_t (e1.trans e2) h2, h3⟩, fun H3 e3 => q _ H3 e3 rfl⟩)
def rMinI : List V → Hp → VK → Prop := fun xs H Q => ∃ i j, xs = [.int i, .int j] ∧ Q (.int (if j < i then j else i)) H
theorem ev_min {i j : Nat} (ha : Ev ta σ H (.int (i : Int))) (hb : Ev tb σ H (.int (j : Int))) : Ev (tCB rMinI (tCons ta (tCons tb tNil))) σ H (.int ((min i j : Nat) : Int)) := fun H1 e Q q => ha H1 e _ fun H2 e2 => hb H2 (e.trans e2) _ fun H3 e3 => ⟨i, j, rfl, by
  have k := q H3 (e2.trans e3)
  by_cases h : (j : Int) < (i : Int)
  · rw [if_pos h]; rw [Nat.min_eq_right (by omega)] at k; exact k
  · rw [if_neg h]; rw [Nat.min_eq_left (by omega)] at k; exact k⟩
theorem ev_max {i j : Nat} (ha : Ev ta σ H (.int (i : Int))) (hb : Ev tb σ H (.int (j : Int))) : Ev (tCB rMaxI (tCons ta (tCons tb tNil))) σ H (.int ((max i j : Nat) : Int)) := fun H1 e Q q => ha H1 e _ fun H2 e2 => hb H2 (e.trans e2) _ fun H3 e3 => ⟨i, j, rfl, by
  have k := q H3 (e2.trans e3)
  by_cases h : (j : Int) > (i : Int)
  · rw [if_pos h]; rw [Nat.max_eq_right (by omega)] at k; exact k
  · rw [if_neg h]; rw [Nat.max_eq_left (by omega)] at k; exact k⟩
/-- x = f(..), what f does told -/
theorem q_asgX {sp : Sp} {i : Nat} {vs : List V} (h : EvA tr σ H vs) (k : ∀ H1, Ex H H1 → sp vs H1 (fun v H2 => tz D (σ.set i (some v)) H2) E) : tSeq (tAsg (tCall sp [] E tr) (gName i)) tz D σ H := h H (Ex.refl H) _ fun H1 e => by
  have q := k H1 e
  show sp (vs ++ []) H1 _ E
  rw [List.append_nil]
  exact q
end
def spLaw (K : PySem.W.Frag) : Sp := fun vs H Q _ => ∃ (a : Addr) (ns : List Int), vs = [.ref a] ∧ SqL K H a (ns.map V.int) ∧ ns.length ≤ 63 ∧ ∀ H', Q (.bl true) H'
end Kf

set_option Elab.async false
set_option linter.all false
set_option maxRecDepth 100000
set_option maxHeartbeats 4000000
namespace Kf
open PySem L2 Evl
/-- the first path of eight steps, looked for from the end -/
def DeepAt (c : Cl) (n k D : Nat) : Prop := (D = 0 ∧ ∀ j q, n ≤ j + k → c.tr.paths[j]? = some q → q.length ≠ 8) ∨ (n ≤ D + k ∧ D < n ∧ (∀ q, c.tr.paths[D]? = some q → q.length = 8) ∧ ∀ j q, n ≤ j + k → j < D → c.tr.paths[j]? = some q → q.length ≠ 8)
theorem deep_end {c : Cl} {D : Nat} (h : DeepAt c c.tr.size c.tr.size D) (hd : 8 < c.depth) : D = Tr.first 8 c.tr := by
  have hf := Cl.tr_deep 8 c hd
  obtain ⟨q, hq⟩ := path_some hf
  have h8 := (Cl.tr_at 8 c _ q hq).2 rfl
  rcases h with ⟨h0, h1⟩ | ⟨_, h1, h2, h3⟩
  · exact absurd h8 (h1 _ q (by omega) hq)
  · obtain ⟨r, hr⟩ := path_some h1
    have l8 := h2 r hr
    have k := Cl.tr_at 8 c D r hr
    by_cases z : D < Tr.first 8 c.tr
    · have := k.1 z; omega
    · by_cases z2 : Tr.first 8 c.tr < D
      · exact absurd h8 (h3 _ q (by omega) z2 hq)
      · omega
section
variable {P : Program} {w : World} {K : PySem.W.Frag} {mg : Str → Option Value} {base : Heap}
abbrev sLaw : Stmt := top 45
theorem scLaw : FnScope ["script", "head", "row", "menu", "code", "depth", "tall", "long", "paths", "deep", "k", "first", "second", "at", "bad", "parts", "other"] ["script"] (defScope sLaw) := ⟨rfl, rfl, rfl, by decide +kernel, rfl, by decide +kernel, by decide +kernel⟩
theorem ok_law54 {f : Addr} {fd : FuncData} (DLawDigits : Df P w K mg base CX0 "_law_digits" 1 ["cell", "sizes"] (spDigits K)) (DLawCell : Df P w K mg base CX0 "_law_cell" 1 ["script", "k"] (spCell K)) (DLawModuli : Df P w K mg base CX0 "_law_moduli" 1 ["kind"] spModuli)
    (DLawCode : Df P w K mg base CX0 "_law_code" 3 ["cell", "near", "menu", "most"] (spCode K)) (DLawWrapped : Df P w K mg base CX0 "_law_wrapped" 3 ["code", "depth", "goal", "cell", "near", "menu"] (spWrapped K)) (DLawAsked : Df P w K mg base CX0 "_law_asked" 62 ["tree", "mode", "row", "path"] (spAsked K))
    (DLawBuilt : Df P w K mg base CX0 "_law_built" 1 ["code", "mode"] (spBuilt1 K)) (DLawPaths : Df P w K mg base CX0 "_law_paths" 1 ["tree"] (spPaths K)) (DLawSpoilt : Df P w K mg base CX0 "_law_spoilt" 3 ["tree", "path", "digits"] (spSpoilt K)) (B : Bi mg) (mMin : mg "min" = none) (F : Fun K "law" "law" sLaw f fd) :
    FnOk P w K mg base CX0 63 f fd ["script"] (spLaw K) := by
  refine F.ok scLaw (fun vs H Q E h => ?_) (fun cdv A outer s H vs Q E hr h => ?_)
  · obtain ⟨a, ns, rfl, _⟩ := h
    rfl
  obtain ⟨a, ns, rfl, hS, h63, q⟩ := h
  refine ⟨_, (pss_cons (ps_set (i := 1) scLaw.nd rfl (Or.inl rfl) (pe_df DLawDigits hr pass0 (pa_cons (pe_df DLawCell hr pass0 (pa_cons (pv 0) (pa_cons pe_int pa_nil))) (pa_cons (pe_lst (pa_cons pe_int (pa_cons pe_int (pa_cons pe_int (pa_cons pe_int (pa_cons pe_int (pa_cons pe_int (pa_cons pe_int (pa_cons pe_int (pa_cons pe_int pa_nil)))))))))) pa_nil))))
  (pss_cons (ps_set (i := 2) scLaw.nd rfl (Or.inl rfl) (pe_tup (pa_cons (pe_op op_sub (pe_ix ix_list (pv 1) pe_int (fun _ _ => rfl)) pe_int) (pa_cons (pe_op op_sub (pe_ix ix_list (pv 1) pe_int (fun _ _ => rfl)) pe_int) (pa_cons (pe_op op_sub (pe_ix ix_list (pv 1) pe_int (fun _ _ => rfl)) pe_int) pa_nil)))))
  (pss_cons (ps_set (i := 3) scLaw.nd rfl (Or.inl rfl) (pe_df DLawModuli hr pass0 (pa_cons pe_int pa_nil)))
  (pss_cons (ps_asg (pe_df DLawCode hr pass0 (pa_cons (pe_df DLawCell hr pass0 (pa_cons (pv 0) (pa_cons pe_int pa_nil))) (pa_cons (pv 2) (pa_cons (pv 3) (pa_cons pe_int pa_nil))))) (pg_tup rfl (pgs_cons (pg_name (i := 4) scLaw.nd rfl (Or.inl rfl)) (pgs_cons (pg_name (i := 5) scLaw.nd rfl (Or.inl rfl)) pgs_nil))))
  (pss_cons (ps_set (i := 6) scLaw.nd rfl (Or.inl rfl) (pe_df DLawWrapped hr pass0 (pa_cons (pv 4) (pa_cons (pv 5) (pa_cons pe_int (pa_cons (pe_df DLawCell hr pass0 (pa_cons (pv 0) (pa_cons pe_int pa_nil))) (pa_cons (pv 2) (pa_cons (pv 3) pa_nil))))))))
  (pss_cons (ps_set (i := 7) scLaw.nd rfl (Or.inl rfl) (pe_df DLawWrapped hr pass0 (pa_cons (pv 4) (pa_cons (pv 5) (pa_cons (pe_ix ix_list (pe_lst (pa_cons pe_int (pa_cons pe_int (pa_cons pe_int (pa_cons pe_int pa_nil))))) (pe_ix ix_list (pv 1) pe_int (fun _ _ => rfl)) (fun _ _ => rfl)) (pa_cons (pe_df DLawCell hr pass0 (pa_cons (pv 0) (pa_cons pe_int pa_nil))) (pa_cons (pv 2) (pa_cons (pv 3) pa_nil))))))))
  (pss_cons (ps_if (PW.pt (pw_or (pt_not (pt_val (pe_df DLawAsked hr pass0 (pa_cons (pe_df DLawBuilt hr pass0 (pa_cons (pv 4) (pa_cons pe_int pa_nil))) (pa_cons (pe_ix ix_list (pv 1) pe_int (fun _ _ => rfl)) (pa_cons (pv 2) (pa_cons pe_non pa_nil))))))) (pw_or1 (pt_not (pt_val (pe_df DLawAsked hr pass0 (pa_cons (pe_df DLawBuilt hr pass0 (pa_cons (pv 6) (pa_cons pe_int pa_nil))) (pa_cons (pe_ix ix_list (pv 1) pe_int (fun _ _ => rfl)) (pa_cons (pv 2) (pa_cons pe_non pa_nil)))))))))) (pss_one (ps_ret pe_bl)) pss_nil)
  (pss_cons (ps_set (i := 8) scLaw.nd rfl (Or.inl rfl) (pe_df DLawPaths hr pass0 (pa_cons (pe_df DLawBuilt hr pass0 (pa_cons (pv 7) (pa_cons pe_int pa_nil))) pa_nil)))
  (pss_cons (ps_set (i := 9) scLaw.nd rfl (Or.inl rfl) pe_int)
  (pss_cons (ps_for PassesOwn.never rfl (pi_range1 rfl B.range (pa_cons (pe_callB call_len_seq rfl B.len PySem.boot_len (pa_cons (pv 8) pa_nil)) pa_nil)) (pg_name (i := 10) scLaw.nd rfl (Or.inl rfl)) (pss_one (ps_if (pt_cmpR op_eq (pe_callB call_len_seq rfl B.len PySem.boot_len (pa_cons (pe_ix ix_list (pv 8) (pe_op op_sub (pe_op op_sub (pe_callB call_len_seq rfl B.len PySem.boot_len (pa_cons (pv 8) pa_nil)) pe_int) (pv 10)) (fun _ _ => rfl)) pa_nil)) pe_int (nomark _)) (pss_one (ps_set (i := 9) scLaw.nd rfl (Or.inl rfl) (pe_op op_sub (pe_op op_sub (pe_callB call_len_seq rfl B.len PySem.boot_len (pa_cons (pv 8) pa_nil)) pe_int) (pv 10)))) pss_nil)))
  (pss_cons (ps_if (pt_not (pt_val (pe_df DLawAsked hr pass0 (pa_cons (pe_df DLawBuilt hr pass0 (pa_cons (pv 7) (pa_cons pe_int pa_nil))) (pa_cons (pe_ix ix_list (pv 1) pe_int (fun _ _ => rfl)) (pa_cons (pv 2) (pa_cons (pe_ix ix_list (pv 8) (pv 9) (fun _ _ => rfl)) pa_nil))))))) (pss_one (ps_ret pe_bl)) pss_nil)
  (pss_cons (ps_set (i := 11) scLaw.nd rfl (Or.inl rfl) (pe_df DLawDigits hr pass0 (pa_cons (pe_df DLawCell hr pass0 (pa_cons (pv 0) (pa_cons pe_int pa_nil))) (pa_cons (pe_lst (pa_cons pe_int (pa_cons pe_int (pa_cons pe_int (pa_cons pe_int pa_nil))))) pa_nil))))
  (pss_cons (ps_set (i := 12) scLaw.nd rfl (Or.inl rfl) (pe_df DLawDigits hr pass0 (pa_cons (pe_df DLawCell hr pass0 (pa_cons (pv 0) (pa_cons pe_int pa_nil))) (pa_cons (pe_lst (pa_cons pe_int (pa_cons pe_int (pa_cons pe_int (pa_cons pe_int pa_nil))))) pa_nil))))
  (pss_cons (ps_set (i := 13) scLaw.nd rfl (Or.inl rfl) (pe_op op_mod (pe_ix ix_list (pv 11) pe_int (fun _ _ => rfl)) (pe_callB call_len_seq rfl B.len PySem.boot_len (pa_cons (pv 8) pa_nil))))
  (pss_cons (ps_set (i := 14) scLaw.nd rfl (Or.inl rfl) (pe_df DLawSpoilt hr pass0 (pa_cons (pe_df DLawBuilt hr pass0 (pa_cons (pv 7) (pa_cons pe_int pa_nil))) (pa_cons (pe_ix ix_list (pv 8) (pv 13) (fun _ _ => rfl)) (pa_cons (pv 11) pa_nil)))))
  (pss_cons (ps_if (pt_not (pt_val (pe_df DLawAsked hr pass0 (pa_cons (pv 14) (pa_cons (pe_ix ix_list (pv 1) pe_int (fun _ _ => rfl)) (pa_cons (pv 2) (pa_cons (pe_ix ix_list (pv 8) (pe_callB (call_min2 rfl) rfl mMin PyProof.Rows.boot_min (pa_cons (pv 13) (pa_cons (pv 9) pa_nil))) (fun _ _ => rfl)) pa_nil))))))) (pss_one (ps_ret pe_bl)) pss_nil)
  (pss_cons (ps_set (i := 15) scLaw.nd rfl (Or.inl rfl) (pe_ix ix_list (pe_lst (pa_cons (pv 4) (pa_cons (pv 6) pa_nil))) (pe_ix ix_list (pv 1) pe_int (fun _ _ => rfl)) (fun _ _ => rfl)))
  (pss_cons (ps_set (i := 8) scLaw.nd rfl (Or.inl rfl) (pe_df DLawPaths hr pass0 (pa_cons (pe_df DLawBuilt hr pass0 (pa_cons (pv 15) (pa_cons pe_int pa_nil))) pa_nil)))
  (pss_cons (ps_set (i := 13) scLaw.nd rfl (Or.inl rfl) (pe_op op_mod (pe_ix ix_list (pv 11) pe_int (fun _ _ => rfl)) (pe_callB call_len_seq rfl B.len PySem.boot_len (pa_cons (pv 8) pa_nil))))
  (pss_cons (ps_set (i := 16) scLaw.nd rfl (Or.inl rfl) (pe_op op_mod (pe_ix ix_list (pv 12) pe_int (fun _ _ => rfl)) (pe_callB call_len_seq rfl B.len PySem.boot_len (pa_cons (pv 8) pa_nil))))
  (pss_cons (ps_set (i := 14) scLaw.nd rfl (Or.inl rfl) (pe_df DLawSpoilt hr pass0 (pa_cons (pe_df DLawBuilt hr pass0 (pa_cons (pv 15) (pa_cons pe_int pa_nil))) (pa_cons (pe_ix ix_list (pv 8) (pv 13) (fun _ _ => rfl)) (pa_cons (pv 11) pa_nil)))))
  (pss_cons (ps_if (pt_not (pt_val (pe_df DLawAsked hr pass0 (pa_cons (pv 14) (pa_cons (pe_ix ix_list (pv 1) pe_int (fun _ _ => rfl)) (pa_cons (pv 2) (pa_cons (pe_ix ix_list (pv 8) (pv 13) (fun _ _ => rfl)) pa_nil))))))) (pss_one (ps_ret pe_bl)) pss_nil)
  (pss_cons (ps_if (pt_cmpR op_ne (pv 16) (pv 13) (nomark _)) (pss_cons (ps_set (i := 14) scLaw.nd rfl (Or.inl rfl) (pe_df DLawSpoilt hr pass0 (pa_cons (pe_df DLawBuilt hr pass0 (pa_cons (pv 15) (pa_cons pe_int pa_nil))) (pa_cons (pe_ix ix_list (pv 8) (pe_callB (call_max2 rfl) rfl B.max PyProof.Rows.boot_max (pa_cons (pv 13) (pa_cons (pv 16) pa_nil))) (fun _ _ => rfl)) (pa_cons (pv 12) pa_nil)))))
  (pss_cons (ps_set (i := 14) scLaw.nd rfl (Or.inl rfl) (pe_df DLawSpoilt hr pass0 (pa_cons (pv 14) (pa_cons (pe_ix ix_list (pv 8) (pe_callB (call_min2 rfl) rfl mMin PyProof.Rows.boot_min (pa_cons (pv 13) (pa_cons (pv 16) pa_nil))) (fun _ _ => rfl)) (pa_cons (pv 11) pa_nil)))))
  (pss_one (ps_if (pt_not (pt_val (pe_df DLawAsked hr pass0 (pa_cons (pv 14) (pa_cons (pe_ix ix_list (pv 1) pe_int (fun _ _ => rfl)) (pa_cons (pv 2) (pa_cons (pe_ix ix_list (pv 8) (pe_callB (call_min2 rfl) rfl mMin PyProof.Rows.boot_min (pa_cons (pv 13) (pa_cons (pv 16) pa_nil))) (fun _ _ => rfl)) pa_nil))))))) (pss_one (ps_ret pe_bl)) pss_nil)))) pss_nil)
  (pss_one (ps_ret (pe_df DLawAsked hr pass0 (pa_cons (pe_df DLawBuilt hr pass0 (pa_cons (pv 4) (pa_cons pe_int pa_nil))) (pa_cons (pe_ix ix_list (pv 1) pe_int (fun _ _ => rfl)) (pa_cons (pv 2) (pa_cons pe_non pa_nil)))))))))))))))))))))))))))))), ?_⟩
  refine q_asgP (evp_digitsP [3, 3, 3, 3, 2, 4, 41, 41, 41] (evp_cell 0 (ev_var rfl) hS rfl (by decide)) (el_lst (ea_cons ev_c (ea_cons ev_c (ea_cons ev_c (ea_cons ev_c (ea_cons ev_c (ea_cons ev_c (ea_cons ev_c (ea_cons ev_c (ea_cons ev_c ea_nil))))))))) (by show 9 ≤ 100000; decide)) rfl (by decide) (by decide)) fun v H1 e1 hv => ?_
  obtain ⟨ph, ds, rfl, ok, hd⟩ := hv
  have dl : ds.length = 9 := ok.1
  match ds, dl with
  | [d0, d1, d2, d3, d4, d5, d6, d7, d8], _ =>
  have b4 := ok.2 4 2 d4 rfl rfl
  have b5 := ok.2 5 4 d5 rfl rfl
  have hdq : SqL K H1 ph [.int d0, .int d1, .int d2, .int d3, .int d4, .int d5, .int d6, .int d7, .int d8] := sq_of hd
  have ix : ∀ {H' : Hp} {j : Int} {v : V} {σ : L2.St}, Ex H1 H' → σ[1]? = some (some (.ref ph)) → atI [V.int d0, .int d1, .int d2, .int d3, .int d4, .int d5, .int d6, .int d7, .int d8] j = some v → Ev (tOp (rIxL K) (tVar 1) (tC (.int j))) σ H' v := fun e hs h => ev_op (ev_var hs) ev_c (rv_ixL (ex_l e hdq) h)
  refine q_asgP (P := IsU [.int (d6 - 20), .int (d7 - 20), .int (d8 - 20)]) (evp_U (eu_tup (ea_cons (ev_op (ix (Ex.refl _) rfl rfl) ev_c rv_I0) (ea_cons (ev_op (ix (Ex.refl _) rfl rfl) ev_c rv_I0) (ea_cons (ev_op (ix (Ex.refl _) rfl rfl) ev_c rv_I0) ea_nil))) (by show 3 ≤ 100000; decide)) fun p H2 _ h2 => ⟨p, rfl, h2⟩) fun v H2 e2 hv => ?_
  obtain ⟨pr, rfl, hr2⟩ := hv
  generalize d6 - 20 = rx at hr2
  generalize d7 - 20 = ry at hr2
  generalize d8 - 20 = rz at hr2
  have hrow : ∀ {H' : Hp}, Ex H2 H' → Sq K H' pr [.int rx, .int ry, .int rz] := fun e => .inr (st_of (e _ _ hr2))
  have hS2 := ex_l (e1.trans e2) hS
  have scr : ∀ {H' : Hp}, Ex H2 H' → SqL K H' a (ns.map V.int) := fun e => ex_l e hS2
  have ix2 : ∀ {H' : Hp} {j : Int} {v : V} {σ : L2.St}, Ex H2 H' → σ[1]? = some (some (.ref ph)) → atI [V.int d0, .int d1, .int d2, .int d3, .int d4, .int d5, .int d6, .int d7, .int d8] j = some v → Ev (tOp (rIxL K) (tVar 1) (tC (.int j))) σ H' v := fun e => ix (e2.trans e)
  refine q_asgP (evp_call (ea_cons ev_c ea_nil) (sv_moduli (by decide) (by decide))) fun v H3 e3 hv => ?_
  obtain ⟨pm, ms, rfl, hm, om⟩ := hv
  refine q_asg2R (evp_code 5 (evp_cell 1 (ev_var rfl) (scr e3) rfl (by decide)) (ev_var rfl) (ev_var rfl) (hrow e3) (sq_of hm) om rfl (by decide) (by decide) |>.imp fun v H4 e4 hv => ?_) (R := fun x y H5 => ∃ (t : Cl) (pc : Addr), t.Ok ∧ t.depth ≤ 7 ∧ t.leaves ≤ 5 ∧ x = .ref pc ∧ y = .int (t.depth : Nat) ∧ CodeAt K H5 pc t.post) fun vx vy H4 e4 hv => ?_
  · obtain ⟨t, tok, td, tl, p, pc, rfl, h1, h2⟩ := hv
    exact ⟨p, _, _, rfl, h1, t, pc, tok, td, tl, rfl, rfl, h2⟩
  obtain ⟨t, pc, tok, td, tl, rfl, rfl, hc⟩ := hv
  have e24 := e3.trans e4
  have hm4 := e4 _ _ hm
  refine q_asgP (evp_wrapped (g := 8) (ev_var rfl) (ev_var rfl) ev_c rfl (evp_cell 2 (ev_var rfl) (scr e24) rfl (by decide)) (ev_var rfl) (ev_var rfl) hc tok (by omega) (by decide) (hrow e24) (sq_of hm4) om) fun v H5 e5 hv => ?_
  obtain ⟨T, pT, rfl, hT, Tok, Td, Tl⟩ := hv
  have e25 := e24.trans e5
  obtain ⟨g, hg⟩ : ∃ g : Nat, ([9, 9, 10, 12] : List Int).getD d5.toNat 0 = (g : Int) ∧ 9 ≤ g ∧ g ≤ 12 := by
    have k := getD_mem (l := [9, 9, 10, 12]) b5.1 b5.2
    generalize ([9, 9, 10, 12] : List Int).getD d5.toNat 0 = gi at k
    simp only [List.mem_cons, List.not_mem_nil, or_false] at k
    exact ⟨gi.toNat, by omega, by omega, by omega⟩
  refine q_asgP (evp_wrapped (g := g) (ev_var rfl) (ev_var rfl) (ev_pick (xs := [9, 9, 10, 12]) (el_lst (ea_cons ev_c (ea_cons ev_c (ea_cons ev_c (ea_cons ev_c ea_nil)))) (by show 4 ≤ 100000; decide)) rfl (ix2 e25 rfl rfl) b5.1 b5.2) hg.1 (evp_cell 3 (ev_var rfl) (scr e25) rfl (by decide)) (ev_var rfl) (ev_var rfl) (hc.mo e5) tok (by omega) (by omega) (hrow e25) (sq_of (e5 _ _ hm4)) om) fun v H6 e6 hv => ?_
  obtain ⟨L, pL, rfl, hL, Lok, Ld, Ll⟩ := hv
  have e26 := e25.trans e6
  have hc6 := (hc.mo e5).mo e6
  have hT6 := hT.mo e6
  -- what stands from here on
  have dT : T.depth ≤ 8 := by omega
  have dL : L.depth ≤ 12 := by omega
  have lT : T.leaves ≤ 13 := by have := t.pos; omega
  have lL : L.leaves ≤ 17 := by have := t.pos; omega
  have depOk : ∀ {c : Cl}, c.depth ≤ 12 → c.tr.data.dep ≤ 13 := fun {c} h => by have := c.tr_dep; omega
  have askC : ∀ {H' : Hp} {σ : L2.St} {u : Cl} {pu : Addr} {te tm : TE} {mode : Int} {E E2 : XK}, Ex H6 H' → σ[2]? = some (some (.ref pr)) → Ev te σ H' (.ref pu) → CodeAt K H' pu u.post → u.Ok → u.depth ≤ 8 → Ev tm σ H' (.int mode) →
      Ev (tCall (spAsked K) [] E (tCons (tCall (spBuilt1 K) [] E2 (tCons te (tCons (tC (.int 1)) tNil))) (tCons tm (tCons (tVar 2) (tCons (tC .non) tNil))))) σ H' (.bl true) := fun {H' σ u pu te tm mode E E2} e hs hte hcu uok ud hm =>
    ev_ask ((evp_built hte hcu (by omega)).sub fun v H1 h => h.rp) hm (ev_var hs) ev_c (hrow (e26.trans e)) (by have := depOk (c := u) (by omega); omega) u.tr_thin (.inl ⟨rfl, u, good_cl uok ud⟩)
  refine q_when (b := false) (et_is (et_or (et_not (et_B (askC (Ex.refl _) rfl (ev_var rfl) hc6 tok (by omega) (ix2 e26 rfl rfl)))) fun _ => et_not (et_B (askC (Ex.refl _) rfl (ev_var rfl) hT6 Tok dT (ix2 e26 rfl rfl)))) rfl) (fun z => nomatch z) fun _ H7 e7 => ?_
  have szL : L.tr.size ≤ 499 := by
    have k := L.tr_size
    have : L.leaves * L.depth ≤ 17 * 12 := Nat.mul_le_mul lL dL
    omega
  refine q_asgP (evp_paths (ev_var rfl) (hL.mo e7) dL szL) fun v H8 e8 hv => ?_
  obtain ⟨pp, ws, rfl, hpp, hbp⟩ := hv
  have e68 := e7.trans e8
  have lws : ws.length = L.tr.size := (both_len hbp).trans L.tr.paths_len
  have spos := L.tr.size_pos
  refine q_asg ev_c fun H9 e9 => ?_
  have e89 := e9
  have lenP : ∀ {H' : Hp} {σ : L2.St}, Ex H8 H' → σ[8]? = some (some (.ref pp)) → Ev (tCB (rLenS K) (tCons (tVar 8) tNil)) σ H' (.int (L.tr.size : Int)) := fun e hs => ev_is (ev_lenQ (ev_var hs) (.inl (sq_of (e _ _ hpp)))) (by rw [lws])
  refine q_forR1 (n := (L.tr.size : Int)) (ea_cons (lenP e9 rfl) ea_nil) (by omega) (fun k σ' H' => ∃ (D : Nat) (o10 : Option V), σ' = [some (.ref a), some (.ref ph), some (.ref pr), some (.ref pm), some (.ref pc), some (.int (t.depth : Nat)), some (.ref pT), some (.ref pL), some (.ref pp), some (.int (D : Int)), o10, none, none, none, none, none, none] ∧ DeepAt L L.tr.size k D ∧ Ex H8 H')
    (fun H10 e10 => ⟨0, none, rfl, .inl ⟨rfl, fun j qq hj hq => by
      have := (List.getElem?_eq_some_iff.mp hq).1
      rw [L.tr.paths_len] at this
      omega⟩, e9.trans e10⟩) ?_ ?_
  · rintro k σ' H' hk ⟨D, o10, rfl, hD, e10⟩
    have hk' : k < L.tr.size := by omega
    have hj : L.tr.size - 1 - k < L.tr.size := by omega
    obtain ⟨qq, hqq⟩ := path_some hj
    have ej : (L.tr.size : Int) - 1 - (k : Int) = ((L.tr.size - 1 - k : Nat) : Int) := by omega
    obtain ⟨pq, hev, hpq⟩ := ev_path (ta := tVar 8) (tb := tOp (rI0 fun i j => .int (i - j)) (tOp (rI0 fun i j => .int (i - j)) (tCB (rLenS K) (tCons (tVar 8) tNil)) (tC (.int 1))) (tVar 10)) (σ := [some (.ref a), some (.ref ph), some (.ref pr), some (.ref pm), some (.ref pc), some (.int (t.depth : Nat)), some (.ref pT), some (.ref pL), some (.ref pp), some (.int (D : Int)), some (.int (k : Int)), none, none, none, none, none, none]) (e10 _ _ hpp) (both_imp (fun v x h => h.ex e10) hbp) (ev_var rfl) (ev_op (ev_op (lenP e10 rfl) ev_c rv_I0) (ev_var rfl) rv_I0) ej hqq
    refine s_when (et_test (ev_intEq (ev_lenQ hev (.inr hpq)) ev_c)) (fun hb H11 e11 => ?_) fun hb H11 e11 => ?_
    · have h8 : qq.length = 8 := by
        have := of_decide_eq_true hb
        rw [List.length_map] at this
        omega
      refine s_asg (ev_is (ev_op (ev_op (lenP (e10.trans e11) rfl) ev_c rv_I0) (ev_var rfl) rv_I0) (by rw [ej])) fun H12 e12 => ⟨_, _, rfl, .inr ⟨by omega, hj, fun q2 h2 => by rw [hqq] at h2; cases h2; exact h8, fun j q2 hj2 hlt _ => absurd hlt (by omega)⟩, (e10.trans e11).trans e12⟩
    · have h8 : qq.length ≠ 8 := fun z => by
        have := of_decide_eq_false hb
        rw [List.length_map] at this
        omega
      have new : ∀ j q2, j = L.tr.size - 1 - k → L.tr.paths[j]? = some q2 → q2.length ≠ 8 := fun j q2 hj2 h2 => by
        rw [hj2, hqq] at h2
        cases h2
        exact h8
      refine ⟨D, _, rfl, ?_, e10.trans e11⟩
      rcases hD with ⟨h0, h1⟩ | ⟨h0, h1, h2, h3⟩
      · exact .inl ⟨h0, fun j q2 hj2 hq2 => by
          by_cases z : L.tr.size ≤ j + k
          · exact h1 j q2 z hq2
          · exact new j q2 (by omega) hq2⟩
      · exact .inr ⟨by omega, h1, h2, fun j q2 hj2 hlt hq2 => by
          by_cases z : L.tr.size ≤ j + k
          · exact h3 j q2 z hlt hq2
          · exact new j q2 (by omega) hq2⟩
  rintro σ' H10 ⟨D, o10, rfl, hD, e10⟩
  rw [Int.toNat_natCast] at hD
  have hDe := deep_end hD (by omega)
  have hF := Cl.tr_deep 8 L (by omega)
  subst hDe
  obtain ⟨qF, hqF⟩ := path_some hF
  have e810 := e10
  have pathL : ∀ {H' : Hp} {σ : L2.St} {i : Nat} {qi : List Int} {tb : TE}, Ex H8 H' → σ[8]? = some (some (.ref pp)) → Ev tb σ H' (.int (i : Int)) → L.tr.paths[i]? = some qi → ∃ pq, Ev (tOp (rIxL K) (tVar 8) tb) σ H' (.ref pq) ∧ SqT K H' pq (qi.map V.int) :=
    fun e hs hb hq => ev_path (e _ _ hpp) (both_imp (fun v x h => h.ex e) hbp) (ev_var hs) hb rfl hq
  have e610 := e68.trans e10
  have hL10 := hL.mo e610
  obtain ⟨pqF, hevF, hsF⟩ := pathL (σ := [some (.ref a), some (.ref ph), some (.ref pr), some (.ref pm), some (.ref pc), some (.int (t.depth : Nat)), some (.ref pT), some (.ref pL), some (.ref pp), some (.int (Tr.first 8 L.tr : Nat)), o10, none, none, none, none, none, none]) (tb := tVar 9) e10 rfl (ev_var rfl) hqF
  refine q_when (b := false) (et_is (et_not (et_B (ev_ask ((evp_built (ev_var rfl) hL10 dL).sub fun v H1 h => h.rp) (ix2 (e26.trans e610) rfl rfl) (ev_var rfl) hevF (hrow (e26.trans e610)) (by have := depOk dL; omega) L.tr_thin (.inr ⟨pqF, qF, rfl, hsF, bad_tr (Cl.tr_ok Lok) hF hqF⟩)))) rfl) (fun z => nomatch z) fun _ H11 e11 => ?_
  have e611 := e610.trans e11
  refine q_asgP (evp_digitsP [2520, 30, 30, 3] (evp_cell 4 (ev_var rfl) (scr (e26.trans e611)) rfl (by decide)) (el_lst (ea_cons ev_c (ea_cons ev_c (ea_cons ev_c (ea_cons ev_c ea_nil)))) (by show 4 ≤ 100000; decide)) rfl (by decide) (by decide)) fun v H12 e12 hv => ?_
  obtain ⟨p1, ds1, rfl, ok1, hd1⟩ := hv
  have e612 := e611.trans e12
  refine q_asgP (evp_digitsP [2520, 30, 30, 3] (evp_cell 5 (ev_var rfl) (scr (e26.trans e612)) rfl (by decide)) (el_lst (ea_cons ev_c (ea_cons ev_c (ea_cons ev_c (ea_cons ev_c ea_nil)))) (by show 4 ≤ 100000; decide)) rfl (by decide) (by decide)) fun v H13 e13 hv => ?_
  obtain ⟨p2, ds2, rfl, ok2, hd2⟩ := hv
  have e613 := e612.trans e13
  have hd1' := e13 _ _ hd1
  have first0 : ∀ {H' : Hp} {σ : L2.St}, Ex H13 H' → σ[11]? = some (some (.ref p1)) → Ev (tOp (rIxL K) (tVar 11) (tC (.int 0))) σ H' (.int (ds1.getD 0 0)) := fun e hs => ev_op (ev_var hs) ev_c (rv_ixL (sq_of (e _ _ hd1')) (atI_ints (by decide) (by rw [ok1.1]; decide)))
  have second0 : ∀ {H' : Hp} {σ : L2.St}, Ex H13 H' → σ[12]? = some (some (.ref p2)) → Ev (tOp (rIxL K) (tVar 12) (tC (.int 0))) σ H' (.int (ds2.getD 0 0)) := fun e hs => ev_op (ev_var hs) ev_c (rv_ixL (sq_of (e _ _ hd2)) (atI_ints (by decide) (by rw [ok2.1]; decide)))
  generalize ds1.getD 0 0 = n1 at first0
  generalize ds2.getD 0 0 = n2 at second0
  have e813 := ((e10.trans e11).trans e12).trans e13
  have atOk : ∀ {n m : Int}, 0 < m → ∃ i : Nat, n % m = (i : Int) ∧ (i : Int) < m := fun {n m} h => ⟨(n % m).toNat, by have := Int.emod_nonneg n (show m ≠ 0 by omega); omega, by have := Int.emod_nonneg n (show m ≠ 0 by omega); have := Int.emod_lt_of_pos n h; omega⟩
  obtain ⟨i1, hi1, li1⟩ := atOk (n := n1) (m := (L.tr.size : Int)) (by omega)
  have li1' : i1 < L.tr.size := by omega
  refine q_asg (v := .int (i1 : Int)) (ev_is (ev_mod (first0 (Ex.refl _) rfl) (lenP e813 rfl) (by omega)) (by rw [hi1])) fun H14 e14 => ?_
  obtain ⟨q1, hq1⟩ := path_some li1'
  have e814 := e813.trans e14
  have e614 := e613.trans e14
  obtain ⟨pq1, hev1, hs1⟩ := pathL (σ := [some (.ref a), some (.ref ph), some (.ref pr), some (.ref pm), some (.ref pc), some (.int (t.depth : Nat)), some (.ref pT), some (.ref pL), some (.ref pp), some (.int (Tr.first 8 L.tr : Nat)), o10, some (.ref p1), some (.ref p2), some (.int (i1 : Int)), none, none, none]) (tb := tVar 13) e814 rfl (ev_var rfl) hq1
  refine q_asgP (evp_spoil (ev_var rfl) (hL.mo e614) dL Lok hev1 hs1 hq1 (ev_var rfl) (e14 _ _ hd1') ok1) fun vb H15 e15 hv => ?_
  obtain ⟨db, hb1, hb2, hb3, hbt⟩ := hv
  have e815 := e814.trans e15
  have e615 := e614.trans e15
  have lmin : min i1 (Tr.first 8 L.tr) < L.tr.size := by omega
  obtain ⟨qm, hqm⟩ := path_some lmin
  obtain ⟨pqm, hevm, hsm⟩ := pathL (σ := [some (.ref a), some (.ref ph), some (.ref pr), some (.ref pm), some (.ref pc), some (.int (t.depth : Nat)), some (.ref pT), some (.ref pL), some (.ref pp), some (.int (Tr.first 8 L.tr : Nat)), o10, some (.ref p1), some (.ref p2), some (.int (i1 : Int)), some vb, none, none]) (tb := tCB rMinI (tCons (tVar 13) (tCons (tVar 9) tNil))) e815 rfl (ev_min (ev_var rfl) (ev_var rfl)) hqm
  have putDep : ∀ {c : Cl} {i : Nat} {d : Py}, c.depth ≤ 12 → d.dep ≤ c.tr.data.dep + 3 → (c.tr.put i (.x d)).data.dep ≤ 29 := fun {c i d} h1 h2 => by
    have k := dep_put d c.tr i
    have := depOk h1
    omega
  refine q_when (b := false) (et_is (et_not (et_B (ev_ask (d := (L.tr.put i1 (.x db)).data) (evp_var rfl fun H16 e16 => hbt.rp.mo e16) (ix2 (e26.trans e615) rfl rfl) (ev_var rfl) hevm (hrow (e26.trans e615)) (by have := putDep (i := i1) dL hb2; omega) (thin_put hb3 _ _ L.tr_thin) (.inr ⟨pqm, qm, rfl, hsm, bad_put (Cl.tr_ok Lok) li1' hb1 hqm⟩)))) rfl) (fun z => nomatch z) fun _ H16 e16 => ?_
  have e616 := e615.trans e16
  have e1316 := (e14.trans e15).trans e16
  -- the second tree
  refine q_asgP (P := CodeOf K fun u => u.depth ≤ 8 ∧ u.leaves ≤ 13) ?_ fun vu H17 e17 hv => ?_
  · have d01 : d4 = 0 ∨ d4 = 1 := by omega
    rcases d01 with h | h
    · exact evp_ev (v := .ref pc) (ev_opL1 (el_lst (ea_cons (ev_var rfl) (ea_cons (ev_var rfl) ea_nil)) (by show 2 ≤ 100000; decide)) (fun H' e => ix2 ((e26.trans e616).trans e) rfl rfl) fun p H' hp _ => rv_ixL (sq_of hp) (by rw [h] <;> rfl)) fun H' e => ⟨t, pc, rfl, hc6.mo (e616.trans e), tok, by omega, by omega⟩
    · exact evp_ev (v := .ref pT) (ev_opL1 (el_lst (ea_cons (ev_var rfl) (ea_cons (ev_var rfl) ea_nil)) (by show 2 ≤ 100000; decide)) (fun H' e => ix2 ((e26.trans e616).trans e) rfl rfl) fun p H' hp _ => rv_ixL (sq_of hp) (by rw [h] <;> rfl)) fun H' e => ⟨T, pT, rfl, hT6.mo (e616.trans e), Tok, dT, lT⟩
  obtain ⟨u, pu, rfl, hu, uok, ud, ul⟩ := hv
  have e617 := e616.trans e17
  have e1317 := e1316.trans e17
  have szU : u.tr.size ≤ 499 := by
    have k := u.tr_size
    have : u.leaves * u.depth ≤ 13 * 8 := Nat.mul_le_mul ul ud
    omega
  have dU : u.depth ≤ 12 := by omega
  refine q_asgP (evp_paths (ev_var rfl) hu dU szU) fun v H18 e18 hv => ?_
  obtain ⟨pp2, ws2, rfl, hpp2, hbp2⟩ := hv
  have e618 := e617.trans e18
  have e1318 := e1317.trans e18
  have hu18 := hu.mo e18
  have lws2 : ws2.length = u.tr.size := (both_len hbp2).trans u.tr.paths_len
  have spos2 := u.tr.size_pos
  have lenU : ∀ {H' : Hp} {σ : L2.St}, Ex H18 H' → σ[8]? = some (some (.ref pp2)) → Ev (tCB (rLenS K) (tCons (tVar 8) tNil)) σ H' (.int (u.tr.size : Int)) := fun e hs => ev_is (ev_lenQ (ev_var hs) (.inl (sq_of (e _ _ hpp2)))) (by rw [lws2])
  have pathU : ∀ {H' : Hp} {σ : L2.St} {i : Nat} {qi : List Int} {tb : TE}, Ex H18 H' → σ[8]? = some (some (.ref pp2)) → Ev tb σ H' (.int (i : Int)) → u.tr.paths[i]? = some qi → ∃ pq, Ev (tOp (rIxL K) (tVar 8) tb) σ H' (.ref pq) ∧ SqT K H' pq (qi.map V.int) :=
    fun e hs hb hq => ev_path (e _ _ hpp2) (both_imp (fun v x h => h.ex e) hbp2) (ev_var hs) hb rfl hq
  obtain ⟨ia, hia, lia⟩ := atOk (n := n1) (m := (u.tr.size : Int)) (by omega)
  obtain ⟨io, hio, lio⟩ := atOk (n := n2) (m := (u.tr.size : Int)) (by omega)
  have lia' : ia < u.tr.size := by omega
  have lio' : io < u.tr.size := by omega
  refine q_asg (v := .int (ia : Int)) (ev_is (ev_mod (first0 e1318 rfl) (lenU (Ex.refl _) rfl) (by omega)) (by rw [hia])) fun H19 e19 => ?_
  refine q_asg (v := .int (io : Int)) (ev_is (ev_mod (second0 (e1318.trans e19) rfl) (lenU e19 rfl) (by omega)) (by rw [hio])) fun H20 e20 => ?_
  have e1820 := e19.trans e20
  have e620 := e618.trans e1820
  have e1320 := e1318.trans e1820
  obtain ⟨qa, hqa⟩ := path_some lia'
  obtain ⟨qo, hqo⟩ := path_some lio'
  obtain ⟨pqa, heva, hsa⟩ := pathU (σ := [some (.ref a), some (.ref ph), some (.ref pr), some (.ref pm), some (.ref pc), some (.int (t.depth : Nat)), some (.ref pT), some (.ref pL), some (.ref pp2), some (.int (Tr.first 8 L.tr : Nat)), o10, some (.ref p1), some (.ref p2), some (.int (ia : Int)), some vb, some (.ref pu), some (.int (io : Int))]) (tb := tVar 13) e1820 rfl (ev_var rfl) hqa
  refine q_asgP (evp_spoil (ev_var rfl) (hu18.mo e1820) dU uok heva hsa hqa (ev_var rfl) (e1320 _ _ hd1') ok1) fun vc H21 e21 hv => ?_
  obtain ⟨dc, hc1, hc2, hc3, hct⟩ := hv
  have e1821 := e1820.trans e21
  have e621 := e620.trans e21
  have e1321 := e1320.trans e21
  have fU : Tr.first 8 u.tr = u.tr.size := Cl.tr_first 8 u ud
  obtain ⟨pqb, hevb, hsb⟩ := pathU (σ := [some (.ref a), some (.ref ph), some (.ref pr), some (.ref pm), some (.ref pc), some (.int (t.depth : Nat)), some (.ref pT), some (.ref pL), some (.ref pp2), some (.int (Tr.first 8 L.tr : Nat)), o10, some (.ref p1), some (.ref p2), some (.int (ia : Int)), some vc, some (.ref pu), some (.int (io : Int))]) (tb := tVar 13) e1821 rfl (ev_var rfl) hqa
  refine q_when (b := false) (et_is (et_not (et_B (ev_ask (d := (u.tr.put ia (.x dc)).data) (evp_var rfl fun H22 e22 => hct.rp.mo e22) (ix2 (e26.trans e621) rfl rfl) (ev_var rfl) hevb (hrow (e26.trans e621)) (by have := putDep (i := ia) dU hc2; omega) (thin_put hc3 _ _ u.tr_thin) (.inr ⟨pqb, qa, rfl, hsb, bad_put (Cl.tr_ok uok) lia' hc1 (by rw [fU, Nat.min_eq_left (by omega)]; exact hqa)⟩)))) rfl) (fun z => nomatch z) fun _ H22 e22 => ?_
  have e1822 := e1821.trans e22
  have e622 := e621.trans e22
  have e1322 := e1321.trans e22
  have last : ∀ {σ : L2.St} {H' : Hp}, Ex H6 H' → σ[1]? = some (some (.ref ph)) → σ[2]? = some (some (.ref pr)) → σ[4]? = some (some (.ref pc)) → tRet (tCall (spAsked K) [] E0 (tCons (tCall (spBuilt1 K) [] E0 (tCons (tVar 4) (tCons (tC (.int 1)) tNil))) (tCons (tOp (rIxL K) (tVar 1) (tC (.int 1))) (tCons (tVar 2) (tCons (tC .non) tNil))))) { nx := fun _ H' => Q .non H', rt := Q } σ H' :=
    fun e h1 h2 h4 => s_ret (askC e h2 (ev_var h4) (hc6.mo e) tok (by omega) (ix2 (e26.trans e) h1 rfl)) fun H9 e9 => q H9
  refine q_when (et_test (ev_op (ev_var rfl) (ev_var rfl) (rv_ne rfl))) (fun hb H23 e23 => ?_) fun hb H23 e23 => last (e622.trans e23) rfl rfl rfl
  have e1823 := e1822.trans e23
  have e623 := e622.trans e23
  have e1323 := e1322.trans e23
  have hne : io ≠ ia := fun z => by
    rw [z] at hb
    simp at hb
  have lmax : max ia io < u.tr.size := by omega
  have lmin2 : min ia io < u.tr.size := by omega
  have mlt : min ia io < max ia io := by omega
  obtain ⟨qx, hqx⟩ := path_some lmax
  obtain ⟨qn, hqn⟩ := path_some lmin2
  obtain ⟨pqx, hevx, hsx⟩ := pathU (σ := [some (.ref a), some (.ref ph), some (.ref pr), some (.ref pm), some (.ref pc), some (.int (t.depth : Nat)), some (.ref pT), some (.ref pL), some (.ref pp2), some (.int (Tr.first 8 L.tr : Nat)), o10, some (.ref p1), some (.ref p2), some (.int (ia : Int)), some vc, some (.ref pu), some (.int (io : Int))]) (tb := tCB rMaxI (tCons (tVar 13) (tCons (tVar 16) tNil))) e1823 rfl (ev_max (ev_var rfl) (ev_var rfl)) hqx
  refine q_asgP (evp_spoil (ev_var rfl) (hu18.mo e1823) dU uok hevx hsx hqx (ev_var rfl) (e1323 _ _ hd2) ok2) fun vx H24 e24 hv => ?_
  obtain ⟨dx, hx1, hx2, hx3, hxt⟩ := hv
  have e1824 := e1823.trans e24
  have e1324 := e1323.trans e24
  obtain ⟨pqn, hevn, hsn⟩ := pathU (σ := [some (.ref a), some (.ref ph), some (.ref pr), some (.ref pm), some (.ref pc), some (.int (t.depth : Nat)), some (.ref pT), some (.ref pL), some (.ref pp2), some (.int (Tr.first 8 L.tr : Nat)), o10, some (.ref p1), some (.ref p2), some (.int (ia : Int)), some vx, some (.ref pu), some (.int (io : Int))]) (tb := tCB rMinI (tCons (tVar 13) (tCons (tVar 16) tNil))) e1824 rfl (ev_min (ev_var rfl) (ev_var rfl)) hqn
  refine q_asgX (ea_cons (ev_var rfl) (ea_cons hevn (ea_cons (ev_var rfl) ea_nil))) fun H25 e25 => ?_
  have gtx := Tr.put_gt (.x dx) u.tr _ lmax
  have okx := ok_put hx1 u.tr (max ia io) (Cl.tr_ok uok)
  have pathx : (u.tr.put (max ia io) (.x dx)).paths[min ia io]? = some qn := by rw [Tr.path_put (.x dx) u.tr _ _ (by omega) lmax]; exact hqn
  have p1at := (e1324.trans e25) _ _ hd1'
  refine ⟨vx, pqn, p1, H23, u.tr.put (max ia io) (.x dx), min ia io, qn, ds1, rfl, e24.trans e25, hxt.mo e25, okx, thin_put hx3 _ _ u.tr_thin, by omega, ?_, pathx, path_short dU hqn, ex_t e25 hsn, p1at, (e1323 _ _ hd1').trans p1at.symm, ok1, fun dy hy1 hy2 hy3 vy H26 e26' hyt => ?_⟩
  · rw [Tr.real_put (.x dx) u.tr _ _ mlt lmax]
    exact Cl.tr_real u _ lmin2
  have e1826 := e1823.trans e26'
  have e626 := e623.trans e26'
  obtain ⟨pqz, hevz, hsz⟩ := pathU (σ := [some (.ref a), some (.ref ph), some (.ref pr), some (.ref pm), some (.ref pc), some (.int (t.depth : Nat)), some (.ref pT), some (.ref pL), some (.ref pp2), some (.int (Tr.first 8 L.tr : Nat)), o10, some (.ref p1), some (.ref p2), some (.int (ia : Int)), some vy, some (.ref pu), some (.int (io : Int))]) (tb := tCB rMinI (tCons (tVar 13) (tCons (tVar 16) tNil))) e1826 rfl (ev_min (ev_var rfl) (ev_var rfl)) hqn
  have fx : Tr.first 8 (u.tr.put (max ia io) (.x dx)) = max ia io := by rw [Tr.first_put dx 8 u.tr _ lmax, fU, Nat.min_eq_left (by omega)]
  have dep1 : (u.tr.put (max ia io) (.x dx)).data.dep ≤ 21 := by
    have k := dep_put dx u.tr (max ia io)
    have := u.tr_dep
    omega
  refine s_when (b := false) (et_is (et_not (et_B (ev_ask (d := ((u.tr.put (max ia io) (.x dx)).put (min ia io) (.x dy)).data) (evp_var rfl fun H27 e27 => hyt.rp.mo e27) (ix2 (e26.trans e626) rfl rfl) (ev_var rfl) hevz (hrow (e26.trans e626)) (by
      have k := dep_put dy (u.tr.put (max ia io) (.x dx)) (min ia io)
      omega) (thin_put hy3 _ _ (thin_put hx3 _ _ u.tr_thin)) (.inr ⟨pqz, qn, rfl, hsz, bad_put okx (by omega) hy1 (by rw [fx, Nat.min_eq_left (by omega)]; exact pathx)⟩)))) rfl) (fun z => nomatch z) fun _ H27 e27 => last (e626.trans e27) rfl rfl rfl
end
end Kf

set_option Elab.async false
set_option linter.all false
set_option maxRecDepth 100000
set_option maxHeartbeats 4000000
namespace Kf
open PySem L2 Evl
theorem at_mk {K : PySem.W.Frag} {h : Heap} {mg : Str → Option Value} {name : Str} {st : Stmt} {ps : List Str} {f : Addr} {oc : Value} {od an : Option Addr} {osl : Array (Option Value)} {kV doc pm cdv ct : Value} (X : K.In h) (G : h.Ns mainGlobals mg)
    (b : ∀ (kV doc pm : Value) (an : Option Addr) (cdv ct : Value) (us : List Value), us.length = ps.length → bindArgs (PySem.W.fnOf name name (defArgs st) (defBody st) (defScope st) .none kV doc pm an cdv ct) ⟨us, []⟩ = pure (ps.zip us))
    (a : PySem.W.nsIn K mainGlobals name = some (some (.ref f))) (l : K.lookup f = some ⟨oc, od, .func (PySem.W.fnOf name name (defArgs st) (defBody st) (defScope st) .none kV doc pm an cdv ct), osl⟩) (c : PySem.W.codeIn K cdv name = true) (k : PySem.W.keepIn K (.ref f) = true) : At K mg name st ps := by
  have F := fun_mk (st := st) l c k
  exact ⟨f, _, F, PySem.W.mg_of X G a, F.binds b⟩
theorem with_at {K : PySem.W.Frag} {h : Heap} {mg : Str → Option Value} {R : Prop} (name : Str) (st : Stmt) (ps : List Str) {f : Addr} {oc : Value} {od an : Option Addr} {osl : Array (Option Value)} {kV doc pm cdv ct : Value} (X : K.In h) (G : h.Ns mainGlobals mg)
    (b : ∀ (kV doc pm : Value) (an : Option Addr) (cdv ct : Value) (us : List Value), us.length = ps.length → bindArgs (PySem.W.fnOf name name (defArgs st) (defBody st) (defScope st) .none kV doc pm an cdv ct) ⟨us, []⟩ = pure (ps.zip us))
    (a : PySem.W.nsIn K mainGlobals name = some (some (.ref f))) (l : K.lookup f = some ⟨oc, od, .func (PySem.W.fnOf name name (defArgs st) (defBody st) (defScope st) .none kV doc pm an cdv ct), osl⟩) (c : PySem.W.codeIn K cdv name = true) (k : PySem.W.keepIn K (.ref f) = true) (r : At K mg name st ps → R) : R :=
  r (at_mk X G b a l c k)
theorem with_none {K : PySem.W.Frag} {h : Heap} {mg : Str → Option Value} {R : Prop} (name : Str) (X : K.In h) (G : h.Ns mainGlobals mg) (a : PySem.W.nsIn K mainGlobals name = some none) (r : mg name = none → R) : R := r (PySem.W.mg_none_of X G a)
theorem with_val {K : PySem.W.Frag} {h : Heap} {mg : Str → Option Value} {R : Prop} (name : Str) {v : Value} (X : K.In h) (G : h.Ns mainGlobals mg) (a : PySem.W.nsIn K mainGlobals name = some (some v)) (r : mg name = some v → R) : R := r (PySem.W.mg_of X G a)
theorem with_ref {K : PySem.W.Frag} {h : Heap} {mg : Str → Option Value} {R : Prop} (name : Str) {D : Addr} (X : K.In h) (G : h.Ns mainGlobals mg) (a : PySem.W.nsIn K mainGlobals name = some (some (.ref D))) (r : mg name = some (.ref D) → R) : R := r (PySem.W.mg_of X G a)
theorem kit_ref {K : PySem.W.Frag} {t : Value} {D : Addr} {b : Bool} (h1 : PySem.W.isClsIn K D = true) (h2 : PySem.W.typeIn K (.ref D) = some (.type "type")) (h3 : PySem.W.subIn K t (.ref D) = some b) (h4 : (t == .ref D) = false) : PySem.W.kitOne K t (.ref D) = some b := by
  unfold PySem.W.kitOne
  rw [if_neg (by rw [h4]; decide)]
  have h1' : (PySem.W.clsIn K D).isSome = true := h1
  show (if ((PySem.W.clsIn K D).isSome && PySem.W.typeIn K (.ref D) == some (.type "type")) = true then PySem.W.subIn K t (.ref D) else none) = some b
  rw [h1', h2, if_pos (by rfl)]
  exact h3
theorem kit_type {K : PySem.W.Frag} {C : Addr} {T : String} {b : Bool} (h1 : PySem.W.kitMeta T = true) (h3 : PySem.W.subIn K (.ref C) (.type T) = some b) : PySem.W.kitOne K (.ref C) (.type T) = some b := by
  unfold PySem.W.kitOne
  rw [if_neg (by rw [show (Value.ref C == Value.type T) = false from rfl]; decide)]
  show (if PySem.W.kitMeta T = true then PySem.W.subIn K (.ref C) (.type T) else none) = some b
  rw [if_pos h1]
  exact h3
theorem exm_self {K : PySem.W.Frag} {S : Addr} (h1 : PySem.W.subIn K (.ref S) (.type "BaseException") = some true) (h2 : PySem.W.isClsIn K S = true) (h3 : PySem.W.typeIn K (.ref S) = some (.type "type")) (h4 : PySem.W.subIn K (.ref S) (.ref S) = some true) :
    PySem.W.exmOne K (.ref S) (.ref S) = some true := by
  have h2' : (PySem.W.clsIn K S).isSome = true := h2
  show (if (PySem.W.subIn K (.ref S) (.type "BaseException") == some true) = true then (if ((PySem.W.clsIn K S).isSome && PySem.W.typeIn K (.ref S) == some (.type "type")) = true then PySem.W.subIn K (.ref S) (.ref S) else none) else none) = some true
  rw [if_pos (by rw [h1] <;> rfl), if_pos (by rw [h2', h3] <;> rfl)]
  exact h4
theorem find_none {z : Str} : ∀ {l : List DictEntry} {ks : List Str}, (∃ ts : List Tok, ts.length = ks.length ∧ l.map (·.key) = List.zipWith (fun k t => Value.str k t) ks ts) → (∀ k ∈ ks, k ≠ z) → l.find? (·.key.isStr z) = none ∧ l.any (·.refKey) = false
  | [], _, _, _ => ⟨rfl, rfl⟩
  | e :: r, [], ⟨ts, hl, h⟩, _ => by simp at h
  | e :: r, k :: ks, ⟨[], hl, h⟩, _ => by simp at hl
  | e :: r, k :: ks, ⟨t :: ts, hl, h⟩, hz => by
    have h' : e.key :: r.map (·.key) = Value.str k t :: List.zipWith (fun k t => Value.str k t) ks ts := h
    injection h' with h1 h2
    obtain ⟨q1, q2⟩ := find_none (l := r) (ks := ks) ⟨ts, by simpa using hl, h2⟩ fun k hk => hz k (List.mem_cons_of_mem _ hk)
    have hk : e.key.isStr z = false := by
      rw [h1]
      show (k == z) = false
      exact beq_eq_false_iff_ne.mpr (hz k List.mem_cons_self)
    have hr : e.refKey = false := by
      obtain ⟨hh, kk, vv⟩ := e
      cases h1
      rfl
    rw [List.find?_cons, hk, List.any_cons, hr]
    exact ⟨q1, q2⟩
theorem words_none {K : PySem.W.Frag} {wd : Addr} {es : Array DictEntry} {n : Nat} (h : K.lookup wd = some ⟨.type "dict", none, .dict es n, #[]⟩) (hk : ∃ ts : List Tok, ts.length = 4 ∧ es.toList.map (·.key) = List.zipWith (fun k t => Value.str k t) ["is", "not", "and", "or"] ts) {z : Str} (hz : arity z = none) : PySem.W.nsIn K wd z = some none := by
  have ne : ∀ k ∈ (["is", "not", "and", "or"] : List Str), k ≠ z := fun k hk e => by
    subst e
    simp only [List.mem_cons, List.not_mem_nil, or_false] at hk
    rcases hk with rfl | rfl | rfl | rfl <;> exact absurd hz (by decide +kernel)
  obtain ⟨q1, q2⟩ := find_none (l := es.toList) (ks := ["is", "not", "and", "or"]) hk ne
  unfold PySem.W.nsIn
  rw [h]
  show (match es.toList.find? (·.key.isStr z) with
    | some e => some (some e.val)
    | none => if es.toList.any (·.refKey) then none else some none) = some none
  rw [q1, q2] <;> rfl
section
variable {P : Program} {w : World} {K : PySem.W.Frag} {mg : Str → Option Value} {base : Heap} {f CB CT fB fT wd cFewError cBadForm cBadModulus cBadPart cBadStep cBadText cBadWord cNoRest : Addr} {fd fdB fdT : FuncData} {t8 t12 : Tok} {es : Array DictEntry} {n : Nat}
theorem all_law (B : Bi mg) (mMin : mg "min" = none) (M : Mc K w mg t8 t12 wd es n) (TB : Xc K mg "BadClaim" "path" CB fB) (FB : Fun K "__init__" "BadClaim.__init__" sInitB fB fdB) (TT : Xc K mg "TooManyRests" "modulus" CT fT) (FT : Fun K "__init__" "TooManyRests.__init__" sInitT fT fdT) (mVE : mg "ValueError" = none)
    (gFewError : mg "FewError" = some (.ref cFewError)) (gBadForm : mg "BadForm" = some (.ref cBadForm)) (gBadModulus : mg "BadModulus" = some (.ref cBadModulus)) (gBadPart : mg "BadPart" = some (.ref cBadPart)) (gBadStep : mg "BadStep" = some (.ref cBadStep)) (gBadText : mg "BadText" = some (.ref cBadText)) (gBadWord : mg "BadWord" = some (.ref cBadWord)) (gNoRest : mg "NoRest" = some (.ref cNoRest))
    (i1 : PySem.W.kitOne K (.ref CB) (.ref cFewError) = some true) (i2 : PySem.W.kitOne K (.ref CB) (.type "ValueError") = some true) (i3 : PySem.W.kitOne K (.ref CB) (.ref CT) = some false) (i4 : PySem.W.kitOne K (.ref CB) (.ref cBadForm) = some false) (i5 : PySem.W.kitOne K (.ref CB) (.ref cBadModulus) = some false) (i6 : PySem.W.kitOne K (.ref CB) (.ref cBadPart) = some false) (i7 : PySem.W.kitOne K (.ref CB) (.ref cBadStep) = some false) (i8 : PySem.W.kitOne K (.ref CB) (.ref cBadText) = some false) (i9 : PySem.W.kitOne K (.ref CB) (.ref cBadWord) = some false) (i10 : PySem.W.kitOne K (.ref CB) (.ref cNoRest) = some false) (x1 : PySem.W.exmOne K (.ref CT) (.ref CB) = some false)
    (SWhole : At K mg "whole" sWhole ["value"])
    (SDot : At K mg "dot" sDot ["one", "two"])
    (SBounded : At K mg "bounded" sBounded ["number", "low", "high"])
    (SRightIs : At K mg "right_is" sRightIs ["claim"])
    (SRightShape : At K mg "right_shape" sRightShape ["claim", "path"])
    (SCheckPart : At K mg "check_part" sCheckPart ["claim", "path"])
    (SCheckClaim : At K mg "check_claim" sCheckClaim ["claim"])
    (SCommonModulus : At K mg "common_modulus" sCommonModulus ["claim"])
    (SClaimModulus : At K mg "claim_modulus" sClaimModulus ["claim"])
    (SHoldsAt : At K mg "holds_at" sHoldsAt ["claim", "row"])
    (SHolds : At K mg "holds" sHolds ["claim", "row"])
    (SLawWhole : At K mg "_law_whole" sLawWhole ["value"])
    (SLawCell : At K mg "_law_cell" sLawCell ["script", "k"])
    (SLawDigits : At K mg "_law_digits" sLawDigits ["cell", "sizes"])
    (SLawModuli : At K mg "_law_moduli" sLawModuli ["kind"])
    (SLawDot : At K mg "_law_dot" sLawDot ["one", "two"])
    (SLawLeaf : At K mg "_law_leaf" sLawLeaf ["digits", "near", "menu"])
    (SLawCode : At K mg "_law_code" sLawCode ["cell", "near", "menu", "most"])
    (SLawWrapped : At K mg "_law_wrapped" sLawWrapped ["code", "depth", "goal", "cell", "near", "menu"])
    (SLawBuilt : At K mg "_law_built" sLawBuilt ["code", "mode"])
    (SLawPaths : At K mg "_law_paths" sLawPaths ["tree"])
    (SLawBadIs : At K mg "_law_bad_is" sLawBadIs ["node", "kind", "pick", "place"])
    (SLawBad : At K mg "_law_bad" sLawBad ["node", "digits"])
    (SLawSpoilt : At K mg "_law_spoilt" sLawSpoilt ["tree", "path", "digits"])
    (SLawHanded : At K mg "_law_handed" sLawHanded ["thing", "mode", "depth"])
    (SLawOutcome : At K mg "_law_outcome" sLawOutcome ["door", "given", "row"])
    (SLawAsked : At K mg "_law_asked" sLawAsked ["tree", "mode", "row", "path"])
    (F : Fun K "law" "law" sLaw f fd) : FnOk P w K mg base CX0 63 f fd ["script"] (spLaw K) := by
  have bB : Binds K fdB ["self", "path"] [] := FB.binds fun _ _ _ _ _ _ us hl => match us, hl with | [_, _], _ => rfl
  have bT : Binds K fdT ["self", "modulus"] [] := FT.binds fun _ _ _ _ _ _ us hl => match us, hl with | [_, _], _ => rfl
  have DWhole := df_whole (P := P) (w := w) (base := base) B SWhole
  have DDot := df_dot (P := P) (w := w) (base := base) SDot
  have DBounded := df_bounded DWhole SBounded
  have DRightIs := df_rightIs B M DBounded SRightIs
  have DRightShape := df_rightShape B M DRightIs SRightShape
  have DPart := df_part B DRightShape TB (fn_initB FB) bB SCheckPart 8
  have DCheck := df_check DPart SCheckClaim
  have DCommon := df_common (P := P) (w := w) (base := base) B SCommonModulus 8
  have DMany := df_manyX M DCheck DCommon TT (fn_initT FT) bT SClaimModulus
  have DHoldsAt := df_holdsAt B DDot SHoldsAt 8
  have DHolds := df_holdsX DCheck DHoldsAt SHolds
  have DLawWhole := df_whole54 (P := P) (w := w) (base := base) B SLawWhole
  have DLawCell := df_cell (P := P) (w := w) (base := base) B SLawCell
  have DLawDigits := df_digits (P := P) (w := w) (base := base) B SLawDigits
  have DLawModuli := df_moduli (P := P) (w := w) (base := base) SLawModuli
  have DLawDot := df_lawDot (P := P) (w := w) (base := base) SLawDot
  have DLawLeaf := df_leaf DLawDot B SLawLeaf
  have DLawCode := df_code DLawDigits DLawLeaf B SLawCode
  have DLawWrapped := df_wrapped DLawDigits DLawLeaf B SLawWrapped
  have DLawBuilt := df_built1 (P := P) (w := w) (base := base) B SLawBuilt
  have DLawPaths := df_paths (P := P) (w := w) (base := base) B SLawPaths
  have DLawBadIs := df_badIs (P := P) (w := w) (base := base) B SLawBadIs
  have DLawBad := df_bad B DLawBadIs SLawBad
  have DLawSpoilt := df_spoilt B DLawBad SLawSpoilt
  have DLawHanded := df_handed (P := P) (w := w) (base := base) B SLawHanded 60
  have DLawOutcome := df_outcome B DCheck DMany DHolds TB TT mVE gFewError TT.gC gBadForm gBadModulus gBadPart gBadStep gBadText gBadWord gNoRest i1 i2 i3 i4 i5 i6 i7 i8 i9 i10 x1 SLawOutcome
  have DLawAsked := df_asked54 B DLawHanded DLawOutcome DLawWhole SLawAsked
  exact ok_law54 DLawDigits DLawCell DLawModuli DLawCode DLawWrapped DLawAsked DLawBuilt DLawPaths DLawSpoilt B mMin F
end
theorem with_words {K : PySem.W.Frag} {w : World} {h : Heap} {mg : Str → Option Value} {R : Prop} {t8 t12 t1 t2 t3 t4 : Tok} {wd : Addr} {es : Array DictEntry} {n : Nat} (X : K.In h) (G : h.Ns mainGlobals mg) (aD : PySem.W.nsIn K mainGlobals "DEEPEST" = some (some (.int 8 t8))) (aM : PySem.W.nsIn K mainGlobals "MOST_MODULUS" = some (some (.int 12 t12)))
    (aW : PySem.W.nsIn K mainGlobals "WORDS" = some (some (.ref wd))) (lw : K.lookup wd = some ⟨.type "dict", none, .dict es n, #[]⟩) (k1 : PySem.W.nsIn K wd "is" = some (some (.int 4 t1))) (k2 : PySem.W.nsIn K wd "not" = some (some (.int 2 t2))) (k3 : PySem.W.nsIn K wd "and" = some (some (.int 3 t3))) (k4 : PySem.W.nsIn K wd "or" = some (some (.int 3 t4)))
    (lit : PySem.W.KeysLit w.params es.toList) (low : (wd == sysModules) = false) (hk : ∃ ts : List Tok, ts.length = 4 ∧ es.toList.map (·.key) = List.zipWith (fun k t => Value.str k t) ["is", "not", "and", "or"] ts)
    (r : ∀ t8 t12 wd es n, Mc K w mg t8 t12 wd es n → R) : R :=
  r t8 t12 wd es n ⟨PySem.W.mg_of X G aD, PySem.W.mg_of X G aM, PySem.W.mg_of X G aW, ⟨lw, lit, low⟩, ⟨_, k1⟩, ⟨_, k2⟩, ⟨_, k3⟩, ⟨_, k4⟩, fun z hz => words_none lw hk hz⟩
theorem with_exc {K : PySem.W.Frag} {h : Heap} {mg : Str → Option Value} {R : Prop} (name fld qual : Str) (st : Stmt) {C N fI : Addr} {nm q : Str} {bs bm : List Value} {sn : List Str} {sub : List Value} {ab : Bool} {col : Option Bool} {dd : Option Addr} {m0 m1 m2 m3 m5 : Option Value}
    {oc : Value} {od an : Option Addr} {osl : Array (Option Value)} {kV doc pm cdv ct : Value} (X : K.In h) (G : h.Ns mainGlobals mg)
    (aC : PySem.W.nsIn K mainGlobals name = some (some (.ref C))) (xL : K.lookup C = some (excClassObj nm q C N bs bm true sn sub ab col dd m0 m1 m2 m3 m5 "ValueError.__new__"))
    (sa : PySem.W.findIn K (.ref C) "__setattr__" = some (some (.builtin "object.__setattr__"))) (ga : PySem.W.findIn K (.ref C) "__getattribute__" = some (some (.builtin "BaseException.__getattribute__"))) (gg : PySem.W.findIn K (.ref C) "__getattr__" = some none) (nb : PySem.W.findIn K (.ref C) fld = some none)
    (a1 : PySem.W.findIn K (.ref C) "__init__" = some (some (.ref fI))) (t1 : PySem.W.typeIn K (.ref fI) = some (.type "function")) (kC : PySem.W.keepIn K (.ref C) = true) (eC : PySem.W.subIn K (.ref C) (.type "BaseException") = some true) (tC : PySem.W.typeIn K (.ref C) = some (.type "type"))
    (hC : PySem.W.hasDictIn K C = true) (iC : PySem.W.isClsIn K C = true) (sC : PySem.W.subIn K (.ref C) (.ref C) = some true) (ha : PySem.W.findIn K (.ref C) "__class__" = some (some (.builtin "object.__class__"))) (hn : PySem.W.specialIn K (.builtin "object.__class__") "__get__" = some (some (.builtin "getset_descriptor.__get__")))
    (ht : PySem.W.takesIn K (.builtin "object.__class__") = some true) (hm : PySem.W.mroIn K C (.type "object") = some true)
    (l1 : K.lookup fI = some ⟨oc, od, .func (PySem.W.fnOf "__init__" qual (defArgs st) (defBody st) (defScope st) .none kV doc pm an cdv ct), osl⟩) (c1 : PySem.W.codeIn K cdv qual = true) (k1 : PySem.W.keepIn K (.ref fI) = true) (hbm : PySem.HandSPX.refsVE bm = true)
    (r : Xc K mg name fld C fI → (∃ fdI, Fun K "__init__" qual st fI fdI) → R) : R :=
  r ⟨PySem.W.mg_of X G aC, ⟨⟨nm, q, N, bs, bm, sn, sub, ab, col, dd, m0, m1, m2, m3, m5, xL, hbm⟩, sa, eC, tC, kC⟩, a1, t1, nb, ga, gg, hC, ha, hn, ht, hm, exm_self eC iC tC sC⟩ ⟨_, fun_mk (st := st) l1 c1 k1⟩
theorem with_kit {K : PySem.W.Frag} {h : Heap} {mg : Str → Option Value} {R : Prop} {n1 n2 : Str} {C D : Addr} (b : Bool) (X : K.In h) (gC : mg n1 = some (.ref C)) (gD : mg n2 = some (.ref D)) (h1 : PySem.W.isClsIn K D = true) (h2 : PySem.W.typeIn K (.ref D) = some (.type "type")) (h3 : PySem.W.subIn K (.ref C) (.ref D) = some b) (h4 : (Value.ref C == .ref D) = false)
    (r : PySem.W.kitOne K (.ref C) (.ref D) = some b → R) : R := r (kit_ref h1 h2 h3 h4)
theorem with_kitT {K : PySem.W.Frag} {h : Heap} {mg : Str → Option Value} {R : Prop} {n1 : Str} {C : Addr} (b : Bool) (T : String) (X : K.In h) (gC : mg n1 = some (.ref C)) (h1 : PySem.W.kitMeta T = true) (h3 : PySem.W.subIn K (.ref C) (.type T) = some b)
    (r : PySem.W.kitOne K (.ref C) (.type T) = some b → R) : R := r (kit_type h1 h3)
theorem exm_no {K : PySem.W.Frag} {t S : Addr} (h1 : PySem.W.subIn K (.ref S) (.type "BaseException") = some true) (h2 : PySem.W.isClsIn K S = true) (h3 : PySem.W.typeIn K (.ref S) = some (.type "type")) (h4 : PySem.W.subIn K (.ref t) (.ref S) = some false) :
    PySem.W.exmOne K (.ref t) (.ref S) = some false := by
  have h2' : (PySem.W.clsIn K S).isSome = true := h2
  show (if (PySem.W.subIn K (.ref S) (.type "BaseException") == some true) = true then (if ((PySem.W.clsIn K S).isSome && PySem.W.typeIn K (.ref S) == some (.type "type")) = true then PySem.W.subIn K (.ref t) (.ref S) else none) else none) = some false
  rw [if_pos (by rw [h1] <;> rfl), if_pos (by rw [h2', h3] <;> rfl)]
  exact h4
theorem with_exm {K : PySem.W.Frag} {h : Heap} {mg : Str → Option Value} {R : Prop} {n1 n2 : Str} {t S : Addr} (X : K.In h) (g1 : mg n1 = some (.ref t)) (g2 : mg n2 = some (.ref S)) (h1 : PySem.W.subIn K (.ref S) (.type "BaseException") = some true) (h2 : PySem.W.isClsIn K S = true) (h3 : PySem.W.typeIn K (.ref S) = some (.type "type"))
    (h4 : PySem.W.subIn K (.ref t) (.ref S) = some false) (r : PySem.W.exmOne K (.ref t) (.ref S) = some false → R) : R := r (exm_no h1 h2 h3 h4)
theorem with_law {R : Prop} {K : PySem.W.Frag} {h : Heap} {mg : Str → Option Value} {f fa : Addr} {oc : Value} {od an : Option Addr} {osl : Array (Option Value)} {kV doc pm cdv ct : Value} (X : K.In h) (G : h.Ns mainGlobals mg) (hfa : mg "law" = some (.ref fa))
    (a : PySem.W.nsIn K mainGlobals "law" = some (some (.ref f))) (l : K.lookup f = some ⟨oc, od, .func (PySem.W.fnOf "law" "law" (defArgs sLaw) (defBody sLaw) (defScope sLaw) .none kV doc pm an cdv ct), osl⟩) (c : PySem.W.codeIn K cdv "law" = true) (k : PySem.W.keepIn K (.ref f) = true)
    (r : ∀ fd, Fun K "law" "law" sLaw fa fd → (∀ (s : Shared) (v : Value), BindsTo s fd ⟨[v], []⟩ [("script", v)]) → R) : R := by
  have e := hfa.symm.trans (PySem.W.mg_of X G a)
  cases e
  exact r _ (fun_mk (st := sLaw) l c k) fun s v => .of_eq rfl
theorem walk {l : PySem.W.OpenLaw} {q : Program} {loose : List Str} {XP : (Str → Option Value) → Heap → Prop} {YP : World → Heap → Prop} {d : DefRec} {K : Params → PySem.W.Frag} (hn : l.most = some 63) (hdf : d.params.defaults = [])
    (hY : ∀ (w : World) (h : Heap), YP w h → (K w.params).In h)
    (F : ∀ (w : World) (mg : Str → Option Value) (fa : Addr) (h : Heap), (K w.params).In h → h.Ns mainGlobals mg → mg d.name = some (.ref fa) →
      ∃ fd : FuncData, (∀ (s : Shared) (u : Value), BindsTo s fd ⟨[u], []⟩ [("script", u)]) ∧ ∀ base : Heap, (K w.params).In base → base.Ns mainGlobals mg → FnOk l.prog w (K w.params) mg base CX0 63 fa fd ["script"] (spLaw (K w.params))) :
    PySem.W.WalkO q loose XP YP l.row.toRowW d [] (fun f vs => PySem.call f vs) :=
  L2.walk_of (n := 63) (k := 63) (x := "script") (CX := fun _ => CX0) (sp := fun w => spLaw (K w.params)) hn (by decide) hdf ⟨rfl, by decide, by decide⟩ hY F (fun _ _ a ns hl _ hS => ⟨a, ns, rfl, hS, hl, fun _ => rfl⟩) fun _ _ _ _ _ z => z
end Kf

open PySem PySem.W PyProof.Rows
set_option Elab.async false
set_option maxRecDepth 100000 in
set_option maxHeartbeats 0 in
theorem PySem.Challenge.cw_fewfounders_k54_claims_checked_holds : PySem.Challenge.rw_fewfounders_k54_claims_checked.Holds := by
  w_on; o_law; k_head; (case hw => w_witness2)
  k_fill
  refine Kf.walk (l := PySem.Challenge.rw_fewfounders_k54_claims_checked) rfl rfl (fun w h Y => PySem.W.kIn_of Y) ?F
  case F =>
    intro w mg fa h KX G hmg
    refine' Kf.with_law KX G hmg ?a ?l ?c ?k ?_
    (case a => k_is); (case l => k_is); (case c => k_is); (case k => k_is)
    intro fd FL hb
    refine' Kf.with_at "whole" Kf.sWhole ["value"] KX G (fun _ _ _ _ _ _ us hl => match us, hl with | [_], _ => rfl) ?a0 ?l0 ?c0 ?k0 ?_
    (case a0 => k_is); (case l0 => k_is); (case c0 => k_is); (case k0 => k_is)
    intro SWhole
    refine' Kf.with_at "dot" Kf.sDot ["one", "two"] KX G (fun _ _ _ _ _ _ us hl => match us, hl with | [_, _], _ => rfl) ?a1 ?l1 ?c1 ?k1 ?_
    (case a1 => k_is); (case l1 => k_is); (case c1 => k_is); (case k1 => k_is)
    intro SDot
    refine' Kf.with_at "bounded" Kf.sBounded ["number", "low", "high"] KX G (fun _ _ _ _ _ _ us hl => match us, hl with | [_, _, _], _ => rfl) ?a2 ?l2 ?c2 ?k2 ?_
    (case a2 => k_is); (case l2 => k_is); (case c2 => k_is); (case k2 => k_is)
    intro SBounded
    refine' Kf.with_at "right_is" Kf.sRightIs ["claim"] KX G (fun _ _ _ _ _ _ us hl => match us, hl with | [_], _ => rfl) ?a3 ?l3 ?c3 ?k3 ?_
    (case a3 => k_is); (case l3 => k_is); (case c3 => k_is); (case k3 => k_is)
    intro SRightIs
    refine' Kf.with_at "right_shape" Kf.sRightShape ["claim", "path"] KX G (fun _ _ _ _ _ _ us hl => match us, hl with | [_, _], _ => rfl) ?a4 ?l4 ?c4 ?k4 ?_
    (case a4 => k_is); (case l4 => k_is); (case c4 => k_is); (case k4 => k_is)
    intro SRightShape
    refine' Kf.with_at "check_part" Kf.sCheckPart ["claim", "path"] KX G (fun _ _ _ _ _ _ us hl => match us, hl with | [_, _], _ => rfl) ?a5 ?l5 ?c5 ?k5 ?_
    (case a5 => k_is); (case l5 => k_is); (case c5 => k_is); (case k5 => k_is)
    intro SCheckPart
    refine' Kf.with_at "check_claim" Kf.sCheckClaim ["claim"] KX G (fun _ _ _ _ _ _ us hl => match us, hl with | [_], _ => rfl) ?a6 ?l6 ?c6 ?k6 ?_
    (case a6 => k_is); (case l6 => k_is); (case c6 => k_is); (case k6 => k_is)
    intro SCheckClaim
    refine' Kf.with_at "common_modulus" Kf.sCommonModulus ["claim"] KX G (fun _ _ _ _ _ _ us hl => match us, hl with | [_], _ => rfl) ?a7 ?l7 ?c7 ?k7 ?_
    (case a7 => k_is); (case l7 => k_is); (case c7 => k_is); (case k7 => k_is)
    intro SCommonModulus
    refine' Kf.with_at "claim_modulus" Kf.sClaimModulus ["claim"] KX G (fun _ _ _ _ _ _ us hl => match us, hl with | [_], _ => rfl) ?a8 ?l8 ?c8 ?k8 ?_
    (case a8 => k_is); (case l8 => k_is); (case c8 => k_is); (case k8 => k_is)
    intro SClaimModulus
    refine' Kf.with_at "holds_at" Kf.sHoldsAt ["claim", "row"] KX G (fun _ _ _ _ _ _ us hl => match us, hl with | [_, _], _ => rfl) ?a9 ?l9 ?c9 ?k9 ?_
    (case a9 => k_is); (case l9 => k_is); (case c9 => k_is); (case k9 => k_is)
    intro SHoldsAt
    refine' Kf.with_at "holds" Kf.sHolds ["claim", "row"] KX G (fun _ _ _ _ _ _ us hl => match us, hl with | [_, _], _ => rfl) ?a10 ?l10 ?c10 ?k10 ?_
    (case a10 => k_is); (case l10 => k_is); (case c10 => k_is); (case k10 => k_is)
    intro SHolds
    refine' Kf.with_at "_law_whole" Kf.sLawWhole ["value"] KX G (fun _ _ _ _ _ _ us hl => match us, hl with | [_], _ => rfl) ?a11 ?l11 ?c11 ?k11 ?_
    (case a11 => k_is); (case l11 => k_is); (case c11 => k_is); (case k11 => k_is)
    intro SLawWhole
    refine' Kf.with_at "_law_cell" Kf.sLawCell ["script", "k"] KX G (fun _ _ _ _ _ _ us hl => match us, hl with | [_, _], _ => rfl) ?a12 ?l12 ?c12 ?k12 ?_
    (case a12 => k_is); (case l12 => k_is); (case c12 => k_is); (case k12 => k_is)
    intro SLawCell
    refine' Kf.with_at "_law_digits" Kf.sLawDigits ["cell", "sizes"] KX G (fun _ _ _ _ _ _ us hl => match us, hl with | [_, _], _ => rfl) ?a13 ?l13 ?c13 ?k13 ?_
    (case a13 => k_is); (case l13 => k_is); (case c13 => k_is); (case k13 => k_is)
    intro SLawDigits
    refine' Kf.with_at "_law_moduli" Kf.sLawModuli ["kind"] KX G (fun _ _ _ _ _ _ us hl => match us, hl with | [_], _ => rfl) ?a14 ?l14 ?c14 ?k14 ?_
    (case a14 => k_is); (case l14 => k_is); (case c14 => k_is); (case k14 => k_is)
    intro SLawModuli
    refine' Kf.with_at "_law_dot" Kf.sLawDot ["one", "two"] KX G (fun _ _ _ _ _ _ us hl => match us, hl with | [_, _], _ => rfl) ?a15 ?l15 ?c15 ?k15 ?_
    (case a15 => k_is); (case l15 => k_is); (case c15 => k_is); (case k15 => k_is)
    intro SLawDot
    refine' Kf.with_at "_law_leaf" Kf.sLawLeaf ["digits", "near", "menu"] KX G (fun _ _ _ _ _ _ us hl => match us, hl with | [_, _, _], _ => rfl) ?a16 ?l16 ?c16 ?k16 ?_
    (case a16 => k_is); (case l16 => k_is); (case c16 => k_is); (case k16 => k_is)
    intro SLawLeaf
    refine' Kf.with_at "_law_code" Kf.sLawCode ["cell", "near", "menu", "most"] KX G (fun _ _ _ _ _ _ us hl => match us, hl with | [_, _, _, _], _ => rfl) ?a17 ?l17 ?c17 ?k17 ?_
    (case a17 => k_is); (case l17 => k_is); (case c17 => k_is); (case k17 => k_is)
    intro SLawCode
    refine' Kf.with_at "_law_wrapped" Kf.sLawWrapped ["code", "depth", "goal", "cell", "near", "menu"] KX G (fun _ _ _ _ _ _ us hl => match us, hl with | [_, _, _, _, _, _], _ => rfl) ?a18 ?l18 ?c18 ?k18 ?_
    (case a18 => k_is); (case l18 => k_is); (case c18 => k_is); (case k18 => k_is)
    intro SLawWrapped
    refine' Kf.with_at "_law_built" Kf.sLawBuilt ["code", "mode"] KX G (fun _ _ _ _ _ _ us hl => match us, hl with | [_, _], _ => rfl) ?a19 ?l19 ?c19 ?k19 ?_
    (case a19 => k_is); (case l19 => k_is); (case c19 => k_is); (case k19 => k_is)
    intro SLawBuilt
    refine' Kf.with_at "_law_paths" Kf.sLawPaths ["tree"] KX G (fun _ _ _ _ _ _ us hl => match us, hl with | [_], _ => rfl) ?a20 ?l20 ?c20 ?k20 ?_
    (case a20 => k_is); (case l20 => k_is); (case c20 => k_is); (case k20 => k_is)
    intro SLawPaths
    refine' Kf.with_at "_law_bad_is" Kf.sLawBadIs ["node", "kind", "pick", "place"] KX G (fun _ _ _ _ _ _ us hl => match us, hl with | [_, _, _, _], _ => rfl) ?a21 ?l21 ?c21 ?k21 ?_
    (case a21 => k_is); (case l21 => k_is); (case c21 => k_is); (case k21 => k_is)
    intro SLawBadIs
    refine' Kf.with_at "_law_bad" Kf.sLawBad ["node", "digits"] KX G (fun _ _ _ _ _ _ us hl => match us, hl with | [_, _], _ => rfl) ?a22 ?l22 ?c22 ?k22 ?_
    (case a22 => k_is); (case l22 => k_is); (case c22 => k_is); (case k22 => k_is)
    intro SLawBad
    refine' Kf.with_at "_law_spoilt" Kf.sLawSpoilt ["tree", "path", "digits"] KX G (fun _ _ _ _ _ _ us hl => match us, hl with | [_, _, _], _ => rfl) ?a23 ?l23 ?c23 ?k23 ?_
    (case a23 => k_is); (case l23 => k_is); (case c23 => k_is); (case k23 => k_is)
    intro SLawSpoilt
    refine' Kf.with_at "_law_handed" Kf.sLawHanded ["thing", "mode", "depth"] KX G (fun _ _ _ _ _ _ us hl => match us, hl with | [_, _, _], _ => rfl) ?a24 ?l24 ?c24 ?k24 ?_
    (case a24 => k_is); (case l24 => k_is); (case c24 => k_is); (case k24 => k_is)
    intro SLawHanded
    refine' Kf.with_at "_law_outcome" Kf.sLawOutcome ["door", "given", "row"] KX G (fun _ _ _ _ _ _ us hl => match us, hl with | [_, _, _], _ => rfl) ?a25 ?l25 ?c25 ?k25 ?_
    (case a25 => k_is); (case l25 => k_is); (case c25 => k_is); (case k25 => k_is)
    intro SLawOutcome
    refine' Kf.with_at "_law_asked" Kf.sLawAsked ["tree", "mode", "row", "path"] KX G (fun _ _ _ _ _ _ us hl => match us, hl with | [_, _, _, _], _ => rfl) ?a26 ?l26 ?c26 ?k26 ?_
    (case a26 => k_is); (case l26 => k_is); (case c26 => k_is); (case k26 => k_is)
    intro SLawAsked
    refine' Kf.with_none "len" KX G ?n0 ?_
    (case n0 => k_is)
    intro nLen
    refine' Kf.with_none "int" KX G ?n1 ?_
    (case n1 => k_is)
    intro nInt
    refine' Kf.with_none "bool" KX G ?n2 ?_
    (case n2 => k_is)
    intro nBool
    refine' Kf.with_none "str" KX G ?n3 ?_
    (case n3 => k_is)
    intro nStr
    refine' Kf.with_none "list" KX G ?n4 ?_
    (case n4 => k_is)
    intro nList
    refine' Kf.with_none "tuple" KX G ?n5 ?_
    (case n5 => k_is)
    intro nTuple
    refine' Kf.with_none "isinstance" KX G ?n6 ?_
    (case n6 => k_is)
    intro nIsinstance
    refine' Kf.with_none "range" KX G ?n7 ?_
    (case n7 => k_is)
    intro nRange
    refine' Kf.with_none "abs" KX G ?n8 ?_
    (case n8 => k_is)
    intro nAbs
    refine' Kf.with_none "max" KX G ?n9 ?_
    (case n9 => k_is)
    intro nMax
    refine' Kf.with_none "min" KX G ?n10 ?_
    (case n10 => k_is)
    intro nMin
    refine' Kf.with_none "ValueError" KX G ?n11 ?_
    (case n11 => k_is)
    intro nValueerror
    refine' Kf.with_val "lcm" (v := .builtin "math.lcm") KX G ?v0 ?_
    (case v0 => k_is)
    intro glcm
    refine' Kf.with_ref "FewError" KX G ?v1 ?_
    (case v1 => k_is)
    intro gFewError
    refine' Kf.with_ref "BadForm" KX G ?v2 ?_
    (case v2 => k_is)
    intro gBadForm
    refine' Kf.with_ref "BadModulus" KX G ?v3 ?_
    (case v3 => k_is)
    intro gBadModulus
    refine' Kf.with_ref "BadPart" KX G ?v4 ?_
    (case v4 => k_is)
    intro gBadPart
    refine' Kf.with_ref "BadStep" KX G ?v5 ?_
    (case v5 => k_is)
    intro gBadStep
    refine' Kf.with_ref "BadText" KX G ?v6 ?_
    (case v6 => k_is)
    intro gBadText
    refine' Kf.with_ref "BadWord" KX G ?v7 ?_
    (case v7 => k_is)
    intro gBadWord
    refine' Kf.with_ref "NoRest" KX G ?v8 ?_
    (case v8 => k_is)
    intro gNoRest
    refine' Kf.with_words (w := w) KX G ?w1 ?w2 ?w3 ?w4 ?w5 ?w6 ?w7 ?w8 ?w9 ?w10 ?w11 ?_
    (case w1 => k_is); (case w2 => k_is); (case w3 => k_is); (case w4 => k_is); (case w5 => k_is); (case w6 => k_is); (case w7 => k_is); (case w8 => k_is)
    (case w9 => exact ⟨⟨_, _, rfl, rfl⟩, ⟨_, _, rfl, rfl⟩, ⟨_, _, rfl, rfl⟩, ⟨_, _, rfl, rfl⟩, trivial⟩); (case w10 => rfl); (case w11 => exact ⟨[_, _, _, _], rfl, rfl⟩)
    intro t8 t12 wd es nd M
    refine' Kf.with_exc "BadClaim" "path" "BadClaim.__init__" Kf.sInitB KX G ?y1 ?y2 ?y3 ?y4 ?y5 ?y6 ?y7 ?y8 ?y9 ?y10 ?y11 ?y12 ?y13 ?y14 ?y15 ?y16 ?y17 ?y18 ?y19 ?y20 ?y21 ?y22 ?_
    (case y1 => k_is); (case y2 => k_is); (case y3 => k_is); (case y4 => k_is); (case y5 => k_is); (case y6 => k_is); (case y7 => k_is); (case y8 => k_is); (case y9 => k_is); (case y10 => k_is); (case y11 => k_is); (case y12 => k_is); (case y13 => k_is); (case y14 => first | rfl | k_is); (case y15 => k_is); (case y16 => k_is); (case y17 => k_is); (case y18 => k_is); (case y19 => k_is); (case y20 => k_is); (case y21 => k_is); (case y22 => decide +kernel)
    intro TB TBI
    obtain ⟨fdTB, FTB⟩ := TBI
    refine' Kf.with_exc "TooManyRests" "modulus" "TooManyRests.__init__" Kf.sInitT KX G ?x1 ?x2 ?x3 ?x4 ?x5 ?x6 ?x7 ?x8 ?x9 ?x10 ?x11 ?x12 ?x13 ?x14 ?x15 ?x16 ?x17 ?x18 ?x19 ?x20 ?x21 ?x22 ?_
    (case x1 => k_is); (case x2 => k_is); (case x3 => k_is); (case x4 => k_is); (case x5 => k_is); (case x6 => k_is); (case x7 => k_is); (case x8 => k_is); (case x9 => k_is); (case x10 => k_is); (case x11 => k_is); (case x12 => k_is); (case x13 => k_is); (case x14 => first | rfl | k_is); (case x15 => k_is); (case x16 => k_is); (case x17 => k_is); (case x18 => k_is); (case x19 => k_is); (case x20 => k_is); (case x21 => k_is); (case x22 => decide +kernel)
    intro TT TTI
    obtain ⟨fdTT, FTT⟩ := TTI
    refine' Kf.with_kit true KX TB.gC gFewError ?p1 ?q1 ?r1 ?s1 ?_
    (case p1 => k_is); (case q1 => k_is); (case r1 => k_is); (case s1 => rfl)
    intro i1
    refine' Kf.with_kitT true "ValueError" KX TB.gC ?p2 ?r2 ?_
    (case p2 => rfl); (case r2 => k_is)
    intro i2
    refine' Kf.with_kit false KX TB.gC TT.gC ?p3 ?q3 ?r3 ?s3 ?_
    (case p3 => k_is); (case q3 => k_is); (case r3 => k_is); (case s3 => rfl)
    intro i3
    refine' Kf.with_kit false KX TB.gC gBadForm ?p4 ?q4 ?r4 ?s4 ?_
    (case p4 => k_is); (case q4 => k_is); (case r4 => k_is); (case s4 => rfl)
    intro i4
    refine' Kf.with_kit false KX TB.gC gBadModulus ?p5 ?q5 ?r5 ?s5 ?_
    (case p5 => k_is); (case q5 => k_is); (case r5 => k_is); (case s5 => rfl)
    intro i5
    refine' Kf.with_kit false KX TB.gC gBadPart ?p6 ?q6 ?r6 ?s6 ?_
    (case p6 => k_is); (case q6 => k_is); (case r6 => k_is); (case s6 => rfl)
    intro i6
    refine' Kf.with_kit false KX TB.gC gBadStep ?p7 ?q7 ?r7 ?s7 ?_
    (case p7 => k_is); (case q7 => k_is); (case r7 => k_is); (case s7 => rfl)
    intro i7
    refine' Kf.with_kit false KX TB.gC gBadText ?p8 ?q8 ?r8 ?s8 ?_
    (case p8 => k_is); (case q8 => k_is); (case r8 => k_is); (case s8 => rfl)
    intro i8
    refine' Kf.with_kit false KX TB.gC gBadWord ?p9 ?q9 ?r9 ?s9 ?_
    (case p9 => k_is); (case q9 => k_is); (case r9 => k_is); (case s9 => rfl)
    intro i9
    refine' Kf.with_kit false KX TB.gC gNoRest ?p10 ?q10 ?r10 ?s10 ?_
    (case p10 => k_is); (case q10 => k_is); (case r10 => k_is); (case s10 => rfl)
    intro i10
    refine' Kf.with_exm KX TT.gC TB.gC ?z1 ?z2 ?z3 ?z4 ?_
    (case z1 => k_is); (case z2 => k_is); (case z3 => k_is); (case z4 => k_is)
    intro x1
    have B : Kf.Bi mg := ⟨nLen, nInt, nBool, nStr, nList, nTuple, nIsinstance, nRange, nAbs, nMax, glcm⟩
    exact ⟨fd, hb, fun base _ _ => Kf.all_law B nMin M TB FTB TT FTT nValueerror gFewError gBadForm gBadModulus gBadPart gBadStep gBadText gBadWord gNoRest i1 i2 i3 i4 i5 i6 i7 i8 i9 i10 x1 SWhole SDot SBounded SRightIs SRightShape SCheckPart SCheckClaim SCommonModulus SClaimModulus SHoldsAt SHolds SLawWhole SLawCell SLawDigits SLawModuli SLawDot SLawLeaf SLawCode SLawWrapped SLawBuilt SLawPaths SLawBadIs SLawBad SLawSpoilt SLawHanded SLawOutcome SLawAsked FL⟩

