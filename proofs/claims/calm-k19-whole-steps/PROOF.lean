import PyProof.Rows.All
import Wide.All
import OpenK.AllK
import Wide.FinOn
import HandS.ForMost
import HandS.Conv
import HandS.SetKeys
import HandS.Zip
import HandS.Rev
import HandS.TupAny
import HandS.DeepEq
import HandS.Defaults
import HandS.Flow
import HandS.Exc
import HandS.Evl
import HandS.Style
import HandS.RevTup
import KE.KDictZip
import KE.GoesZip
import KE.GoesMore
import HandS.TupSets
import HandS.DictTup
import HandS.Walk
import KE.KStateDown
import Lean
import HandS.Head0
import HandS.Head1
import HandS.Head2
import HandS.HeadEnd
import HandS.HeadHook1
import HandS.HeadHook2
import PySem.Challenge.RW_calm_k19_whole_steps_as_the_text_tells
set_option Elab.async false
set_option linter.all false
set_option maxRecDepth 100000
set_option maxHeartbeats 4000000
namespace Ca
open PySem L2 PySem.Spec PyProof.Rows
/-! ## the text by places -/
def top (i : Nat) : Stmt := PySem.Challenge.pw_calm_k19_whole_steps_as_the_text_tells.main.body.getD i (.Pass ⟨0, 0, 0, 0⟩)
/-! ## arguments by number -/
def Sp1 (r : V → Hp → VK → Prop) : Sp := fun vs H Q _ => ∃ a, vs = [a] ∧ r a H Q
def Sp2 (r : V → V → Hp → VK → Prop) : Sp := fun vs H Q _ => ∃ a b, vs = [a, b] ∧ r a b H Q
def Sp3 (r : V → V → V → Hp → VK → Prop) : Sp := fun vs H Q _ => ∃ a b c, vs = [a, b, c] ∧ r a b c H Q
def Sp4 (r : V → V → V → V → Hp → VK → Prop) : Sp := fun vs H Q _ => ∃ a b c d, vs = [a, b, c, d] ∧ r a b c d H Q
def Sp5 (r : V → V → V → V → V → Hp → VK → Prop) : Sp := fun vs H Q _ => ∃ a b c d e, vs = [a, b, c, d, e] ∧ r a b c d e H Q
def Sp6 (r : V → V → V → V → V → V → Hp → VK → Prop) : Sp := fun vs H Q _ => ∃ a b c d e f, vs = [a, b, c, d, e, f] ∧ r a b c d e f H Q
def Sp8 (r : V → V → V → V → V → V → V → V → Hp → VK → Prop) : Sp := fun vs H Q _ => ∃ a b c d e f g h, vs = [a, b, c, d, e, f, g, h] ∧ r a b c d e f g h H Q
theorem Sp1.len {r} : ∀ vs H Q E, Sp1 r vs H Q E → vs.length = 1 := fun _ _ _ _ ⟨_, e, _⟩ => by rw [e]; rfl
theorem Sp2.len {r} : ∀ vs H Q E, Sp2 r vs H Q E → vs.length = 2 := fun _ _ _ _ ⟨_, _, e, _⟩ => by rw [e]; rfl
theorem Sp3.len {r} : ∀ vs H Q E, Sp3 r vs H Q E → vs.length = 3 := fun _ _ _ _ ⟨_, _, _, e, _⟩ => by rw [e]; rfl
theorem Sp4.len {r} : ∀ vs H Q E, Sp4 r vs H Q E → vs.length = 4 := fun _ _ _ _ ⟨_, _, _, _, e, _⟩ => by rw [e]; rfl
theorem Sp5.len {r} : ∀ vs H Q E, Sp5 r vs H Q E → vs.length = 5 := fun _ _ _ _ ⟨_, _, _, _, _, e, _⟩ => by rw [e]; rfl
theorem Sp6.len {r} : ∀ vs H Q E, Sp6 r vs H Q E → vs.length = 6 := fun _ _ _ _ ⟨_, _, _, _, _, _, e, _⟩ => by rw [e]; rfl
theorem Sp8.len {r} : ∀ vs H Q E, Sp8 r vs H Q E → vs.length = 8 := fun _ _ _ _ ⟨_, _, _, _, _, _, _, _, e, _⟩ => by rw [e]; rfl
/-! ## a def as callers see it -/
structure Cal (P : Program) (w : World) (K : PySem.W.Frag) (mg : Str → Option Value) (base : Heap) (x : Str) (k : Nat) (ps : List Str) (sp : Sp) : Prop where
  ex : ∃ (f : Addr) (fd : FuncData), mg x = some (.ref f) ∧ PySem.W.keepIn K (.ref f) = true ∧ Binds K fd ps [] ∧ FnOk P w K mg base CX0 k f fd ps sp
structure FunAt (K : PySem.W.Frag) (mg : Str → Option Value) (x : Str) (st : Stmt) : Prop where
  ex : ∃ (f : Addr) (fd : FuncData), mg x = some (.ref f) ∧ Fun K x x st f fd
section
variable {P : Program} {w : World} {K : PySem.W.Frag} {mg : Str → Option Value} {base : Heap}
theorem Cal.mono {x : Str} {j k : Nat} {ps : List Str} {sp : Sp} (c : Cal P w K mg base x j ps sp) (h : j ≤ k) : Cal P w K mg base x k ps sp := by
  obtain ⟨f, fd, h1, h2, h3, h4⟩ := c.ex
  exact ⟨f, fd, h1, h2, h3, h4.mono h⟩
/-- a weaker promise -/
theorem Cal.weak {x : Str} {k : Nat} {ps : List Str} {sp sp' : Sp} (c : Cal P w K mg base x k ps sp) (h : ∀ vs H Q E, sp' vs H Q E → sp vs H Q E) : Cal P w K mg base x k ps sp' := by
  obtain ⟨f, fd, h1, h2, h3, h4⟩ := c.ex
  exact ⟨f, fd, h1, h2, h3, ⟨fun vs H Q E z => h4.len vs H Q E (h vs H Q E z), fun A outer s H args us vs Q E r e b v z => h4.run A outer s H args us vs Q E r e b v (h vs H Q E z)⟩⟩
theorem FunAt.cal {x : Str} {st : Stmt} {N ps : List Str} {k : Nat} {sp : Sp} (F : FunAt K mg x st) (S : FnScope N ps (defScope st)) (len : ∀ vs H Q E, sp vs H Q E → vs.length = ps.length)
    (hb : ∀ (kV doc pm : Value) (an : Option Addr) (cdv ct : Value) (us : List Value), us.length = ps.length → bindArgs (PySem.W.fnOf x x (defArgs st) (defBody st) (defScope st) .none kV doc pm an cdv ct) ⟨us, []⟩ = pure (ps.zip us))
    (hbody : ∀ (f : Addr) (cdv : Value) (A : Around) (outer : List Env) (s : Shared) (H : Hp) (vs : List V) (Q : VK) (E : XK), Room k (A.deeper (envOfC x (defScope st) s.heap.objs.size f cdv)) → sp vs H Q E →
      ∃ t, PSs (cxOf CX0 P w K mg base N x (defScope st) f cdv A outer s H E).nox (defBody st) t ∧ t { nx := fun _ H' => Q .non H', rt := Q } (start N vs) H) : Cal P w K mg base x (k + 1) ps sp := by
  obtain ⟨f, fd, h1, h2⟩ := F.ex
  exact ⟨f, fd, h1, h2.kp, h2.binds hb, h2.ok S len fun cdv A outer s H vs Q E hr h => hbody f cdv A outer s H vs Q E hr h⟩
end
theorem pe_cal {X : Cx} {x : Str} {p pos : Pos} {e : Expr} {es : List Expr} {k k' : Nat} {ps : List Str} {sp : Sp} {t : TA} (c : Cal X.prog X.w X.K X.mg X.base x k ps sp) (hr : Room k' X.A) (hg : Gl X x)
    (ha : PA X (e :: es) t) (hk : k ≤ k' := by omega) (hdb : (x == ("__debug__" : Str)) = false := by decide) (he : starEach (e :: es) X.env = (false, eval e X.env) :: starEach es X.env := by rfl) (hpl : (backTo pos (starEach es X.env)).any (·.1) = false := by rfl) :
    PE X (.Call (.Name x p) (e :: es) [] pos) (tCall sp [] E0 t) := by
  obtain ⟨f, fd, h1, h2, h3, h4⟩ := c.ex
  exact pe_call h4 (hr.mono hk) hg h1 h2 h3 .nil pass0 ha hdb he hpl
/-! ## data in a frozen part of the heap -/
mutual
inductive Da (K : PySem.W.Frag) (F : Hp) : V → PyData → Prop
  | non : Da K F .non .none
  | bl (b : Bool) : Da K F (.bl b) (.bool b)
  | int (i : Int) : Da K F (.int i) (.int i)
  | str (x : Str) : Da K F (.str x) (.str x)
  | lst {a : Addr} {xs : List V} {ds : List PyData} : F a = some (.lst xs) → Das K F xs ds → Da K F (.ref a) (.list ds)
  | tup {a : Addr} {xs : List V} {ds : List PyData} : SqT K F a xs → Das K F xs ds → Da K F (.ref a) (.tuple ds)
inductive Das (K : PySem.W.Frag) (F : Hp) : List V → List PyData → Prop
  | nil : Das K F [] []
  | cons {v : V} {vs : List V} {d : PyData} {ds : List PyData} : Da K F v d → Das K F vs ds → Das K F (v :: vs) (d :: ds)
end
theorem _root_.L2.Same.tup {K : PySem.W.Frag} {H H' : Hp} {a : Addr} {xs : List V} (e : Same H H') (h : SqT K H a xs) : SqT K H' a xs := by
  rcases h with (h | ⟨o, h⟩) | h
  · exact .inl (.inl (e _ _ h))
  · exact .inl (.inr ⟨o, e _ _ h⟩)
  · exact .inr h
section
variable {K : PySem.W.Frag} {F F' H H' : Hp}
mutual
theorem Da.mono (e : Same F F') : ∀ {d : PyData} {v : V}, Da K F v d → Da K F' v d
  | .none, _, h => by cases h; exact .non
  | .bool _, _, h => by cases h; exact .bl _
  | .int _, _, h => by cases h; exact .int _
  | .str _, _, h => by cases h; exact .str _
  | .list _, _, h => by
    cases h with
    | lst h1 h2 => exact .lst (e _ _ h1) (Das.mono e h2)
  | .tuple _, _, h => by
    cases h with
    | tup h1 h2 => exact .tup (e.tup h1) (Das.mono e h2)
  | .dict _, _, h => by cases h
theorem Das.mono (e : Same F F') : ∀ {ds : List PyData} {vs : List V}, Das K F vs ds → Das K F' vs ds
  | [], _, h => by cases h; exact .nil
  | _ :: _, _, h => by
    cases h with
    | cons h1 h2 => exact .cons (Da.mono e h1) (Das.mono e h2)
end
mutual
theorem Da.dp : ∀ {d : PyData} {v : V}, Da K F v d → Dp K F v d
  | .none, _, h => by cases h; exact .non
  | .bool _, _, h => by cases h; exact .bl _
  | .int _, _, h => by cases h; exact .int _
  | .str _, _, h => by cases h; exact .str _
  | .list _, _, h => by
    cases h with
    | lst h1 h2 => exact .lst (SqL.of h1) (Das.dp h2)
  | .tuple _, _, h => by
    cases h with
    | tup h1 h2 => exact .tup h1 (Das.dp h2)
  | .dict _, _, h => by cases h
theorem Das.dp : ∀ {ds : List PyData} {vs : List V}, Das K F vs ds → DpAll K F vs ds
  | [], _, h => by cases h; exact .nil
  | _ :: _, _, h => by
    cases h with
    | cons h1 h2 => exact .cons (Da.dp h1) (Das.dp h2)
end
theorem Das.length : ∀ {ds : List PyData} {vs : List V}, Das K F vs ds → vs.length = ds.length
  | _, _, .nil => rfl
  | _, _, .cons _ h => congrArg (· + 1) (Das.length h)
theorem Das.get : ∀ {ds : List PyData} {vs : List V} {i : Nat} {d : PyData}, Das K F vs ds → ds[i]? = some d → ∃ v, vs[i]? = some v ∧ Da K F v d
  | _, _, _, _, .nil, e => by simp at e
  | _, _, 0, _, .cons h _, e => by
    simp at e
    subst e
    exact ⟨_, rfl, h⟩
  | _, _, i + 1, d, .cons _ t, e => by
    obtain ⟨v, h1, h2⟩ := Das.get (i := i) (d := d) t (by simpa using e)
    exact ⟨v, by simpa using h1, h2⟩
theorem Das.getV : ∀ {ds : List PyData} {vs : List V} {i : Nat} {v : V}, Das K F vs ds → vs[i]? = some v → ∃ d, ds[i]? = some d ∧ Da K F v d
  | _, _, _, _, .nil, e => by simp at e
  | _, _, 0, _, .cons h _, e => by
    simp at e
    subst e
    exact ⟨_, rfl, h⟩
  | _, _, i + 1, v, .cons _ t, e => by
    obtain ⟨d, h1, h2⟩ := Das.getV (i := i) (v := v) t (by simpa using e)
    exact ⟨d, by simpa using h1, h2⟩
theorem Das.app : ∀ {ds es : List PyData} {vs us : List V}, Das K F vs ds → Das K F us es → Das K F (vs ++ us) (ds ++ es)
  | _, _, _, _, .nil, h => h
  | _, _, _, _, .cons a b, h => .cons a (Das.app b h)
theorem Das.drop : ∀ {ds : List PyData} {vs : List V} (n : Nat), Das K F vs ds → Das K F (vs.drop n) (ds.drop n)
  | _, _, 0, h => h
  | _, _, _ + 1, .nil => .nil
  | _, _, n + 1, .cons _ t => Das.drop n t
theorem Das.take : ∀ {ds : List PyData} {vs : List V} (n : Nat), Das K F vs ds → Das K F (vs.take n) (ds.take n)
  | _, _, 0, _ => .nil
  | _, _, _ + 1, .nil => .nil
  | _, _, n + 1, .cons h t => .cons h (Das.take n t)
theorem Das.rev : ∀ {ds : List PyData} {vs : List V}, Das K F vs ds → Das K F vs.reverse ds.reverse
  | _, _, .nil => .nil
  | _, _, .cons h t => by
    rw [List.reverse_cons, List.reverse_cons]
    exact Das.app (Das.rev t) (.cons h .nil)
theorem Das.rep (n : Nat) {ds : List PyData} {vs : List V} (h : Das K F vs ds) : Das K F (List.replicate n vs).flatten (List.replicate n ds).flatten := by
  induction n with
  | zero => exact .nil
  | succ n ih =>
    rw [List.replicate_succ, List.replicate_succ, List.flatten_cons, List.flatten_cons]
    exact h.app ih
/-- the values of a list of texts -/
theorem Das.strs : ∀ {zs : List Str} {vs : List V}, Das K F vs (zs.map PyData.str) → vs = zs.map V.str
  | [], _, .nil => rfl
  | z :: zs, _, .cons h t => by
    cases h
    rw [Das.strs t, List.map_cons]
theorem Das.of_strs : ∀ (zs : List Str), Das K F (zs.map V.str) (zs.map PyData.str)
  | [] => .nil
  | z :: zs => .cons (.str z) (Das.of_strs zs)
theorem Das.ints : ∀ {zs : List Int} {vs : List V}, Das K F vs (zs.map PyData.int) → vs = zs.map V.int
  | [], _, .nil => rfl
  | z :: zs, _, .cons h t => by
    cases h
    rw [Das.ints t, List.map_cons]
theorem Das.of_ints : ∀ (zs : List Int), Das K F (zs.map V.int) (zs.map PyData.int)
  | [] => .nil
  | z :: zs => .cons (.int z) (Das.of_ints zs)
theorem Da.str_inv {v : V} {x : Str} (h : Da K F v (.str x)) : v = .str x := by cases h; rfl
theorem Da.int_inv {v : V} {x : Int} (h : Da K F v (.int x)) : v = .int x := by cases h; rfl
theorem Da.bl_inv {v : V} {x : Bool} (h : Da K F v (.bool x)) : v = .bl x := by cases h; rfl
theorem Da.lst_inv {v : V} {ds : List PyData} (h : Da K F v (.list ds)) : ∃ a xs, v = .ref a ∧ F a = some (.lst xs) ∧ Das K F xs ds := by
  cases h with
  | lst h1 h2 => exact ⟨_, _, rfl, h1, h2⟩
theorem Da.tup_inv {v : V} {ds : List PyData} (h : Da K F v (.tuple ds)) : ∃ a xs, v = .ref a ∧ SqT K F a xs ∧ Das K F xs ds := by
  cases h with
  | tup h1 h2 => exact ⟨_, _, rfl, h1, h2⟩
theorem Das.cons_inv {d : PyData} {ds : List PyData} {vs : List V} (h : Das K F vs (d :: ds)) : ∃ v us, vs = v :: us ∧ Da K F v d ∧ Das K F us ds := by
  cases h with
  | cons h1 h2 => exact ⟨_, _, rfl, h1, h2⟩
theorem Das.nil_inv {vs : List V} (h : Das K F vs []) : vs = [] := by cases h; rfl
theorem Da.tup2 {v : V} {d e : PyData} (h : Da K F v (.tuple [d, e])) : ∃ a x y, v = .ref a ∧ SqT K F a [x, y] ∧ Da K F x d ∧ Da K F y e := by
  obtain ⟨a, xs, rfl, h1, h2⟩ := h.tup_inv
  obtain ⟨x, _, rfl, hx, h2⟩ := h2.cons_inv
  obtain ⟨y, _, rfl, hy, h2⟩ := h2.cons_inv
  cases h2
  exact ⟨a, x, y, rfl, h1, hx, hy⟩
theorem Da.tup3 {v : V} {d e f : PyData} (h : Da K F v (.tuple [d, e, f])) : ∃ a x y z, v = .ref a ∧ SqT K F a [x, y, z] ∧ Da K F x d ∧ Da K F y e ∧ Da K F z f := by
  obtain ⟨a, xs, rfl, h1, h2⟩ := h.tup_inv
  obtain ⟨x, _, rfl, hx, h2⟩ := h2.cons_inv
  obtain ⟨y, _, rfl, hy, h2⟩ := h2.cons_inv
  obtain ⟨z, _, rfl, hz, h2⟩ := h2.cons_inv
  cases h2
  exact ⟨a, x, y, z, rfl, h1, hx, hy, hz⟩
theorem Da.tup4 {v : V} {d e f g : PyData} (h : Da K F v (.tuple [d, e, f, g])) : ∃ a x y z u, v = .ref a ∧ SqT K F a [x, y, z, u] ∧ Da K F x d ∧ Da K F y e ∧ Da K F z f ∧ Da K F u g := by
  obtain ⟨a, xs, rfl, h1, h2⟩ := h.tup_inv
  obtain ⟨x, _, rfl, hx, h2⟩ := h2.cons_inv
  obtain ⟨y, _, rfl, hy, h2⟩ := h2.cons_inv
  obtain ⟨z, _, rfl, hz, h2⟩ := h2.cons_inv
  obtain ⟨u, _, rfl, hu, h2⟩ := h2.cons_inv
  cases h2
  exact ⟨a, x, y, z, u, rfl, h1, hx, hy, hz, hu⟩
theorem Da.tup5 {v : V} {d e f g i : PyData} (h : Da K F v (.tuple [d, e, f, g, i])) : ∃ a x y z u t, v = .ref a ∧ SqT K F a [x, y, z, u, t] ∧ Da K F x d ∧ Da K F y e ∧ Da K F z f ∧ Da K F u g ∧ Da K F t i := by
  obtain ⟨a, xs, rfl, h1, h2⟩ := h.tup_inv
  obtain ⟨x, _, rfl, hx, h2⟩ := h2.cons_inv
  obtain ⟨y, _, rfl, hy, h2⟩ := h2.cons_inv
  obtain ⟨z, _, rfl, hz, h2⟩ := h2.cons_inv
  obtain ⟨u, _, rfl, hu, h2⟩ := h2.cons_inv
  obtain ⟨t, _, rfl, ht, h2⟩ := h2.cons_inv
  cases h2
  exact ⟨a, x, y, z, u, t, rfl, h1, hx, hy, hz, hu, ht⟩
/-! ## new objects -/
theorem _root_.L2.Same.new {p : Addr} {o : HO} (h : H p = none) : Same H (upd H p o) := fun b u q => by rw [upd_ne (ne_of_none q h)]; exact q
/-- an object that F does not know may change -/
theorem _root_.L2.Same.mut {p : Addr} {o : HO} (e : Same F H) (h : F p = none) : Same F (upd H p o) := fun b u q => by rw [upd_ne (ne_of_none q h)]; exact e b u q
theorem _root_.L2.Same.put {p : Addr} {o : HO} (e : Same F H) (h : H p = some o) (hn : F p = none) : Same (upd F p o) H := fun b u q => by
  by_cases hb : b = p
  · subst hb
    rw [upd_same] at q
    cases q
    exact h
  · rw [upd_ne hb] at q
    exact e b u q
theorem Das.new_lst {p : Addr} {xs : List V} {ds : List PyData} (h : Das K F xs ds) (hp : F p = none) : Da K (upd F p (.lst xs)) (.ref p) (.list ds) :=
  .lst upd_same (h.mono (Same.new hp))
theorem Das.new_tup {p : Addr} {xs : List V} {ds : List PyData} (h : Das K F xs ds) (hp : F p = none) : Da K (upd F p (.tup xs)) (.ref p) (.tuple ds) :=
  .tup (SqT.of upd_same) (h.mono (Same.new hp))
end
theorem at0 {x : V} {xs : List V} : atI (x :: xs) 0 = some x := atI_nat (xs := x :: xs) (j := 0) rfl
theorem at1 {x y : V} {xs : List V} : atI (x :: y :: xs) 1 = some y := atI_nat (xs := x :: y :: xs) (j := 1) rfl
/-! ## what a call may change: O, the objects of its own; F, what is frozen -/
structure Gr (O : Addr → Prop) (F H F' H' : Hp) : Prop where
  ff : Same F F'
  fh : Same F' H'
  kp : ∀ b o, H b = some o → ¬ O b → H' b = some o
  th : ∀ b, H' b = none → H b = none
  fr : ∀ b o, F' b = some o → F b = some o ∨ H b = none
section
variable {O O' : Addr → Prop} {F H F1 H1 F2 H2 : Hp}
theorem Gr.refl (h : Same F H) : Gr O F H F H := ⟨Same.refl F, h, fun _ _ e _ => e, fun _ e => e, fun _ _ e => .inl e⟩
/-- what stood and was not frozen is not frozen behind -/
theorem Gr.non (a : Gr O F H F1 H1) {b : Addr} {o : HO} (h : H b = some o) (n : F b = none) : F1 b = none := by
  cases e : F1 b with
  | none => rfl
  | some u =>
    rcases a.fr b u e with q | q
    · rw [n] at q
      cases q
    · rw [q] at h
      cases h
theorem Gr.trans' (a : Gr O F H F1 H1) (b : Gr O' F1 H1 F2 H2) (hO : ∀ b, O' b → O b ∨ H b = none) : Gr O F H F2 H2 where
  ff := a.ff.trans b.ff
  fh := b.fh
  kp := fun c o e n => by
    have e1 := a.kp c o e n
    refine b.kp c o e1 fun z => ?_
    rcases hO c z with q | q
    · exact n q
    · rw [q] at e
      cases e
  th := fun c e => a.th c (b.th c e)
  fr := fun c o e => by
    rcases b.fr c o e with q | q
    · exact a.fr c o q
    · exact .inr (a.th c q)
theorem Gr.trans (a : Gr O F H F1 H1) (b : Gr O F1 H1 F2 H2) : Gr O F H F2 H2 := a.trans' b fun _ z => .inl z
theorem Gr.mono (a : Gr O F H F1 H1) (h : ∀ b, O b → O' b) : Gr O' F H F1 H1 := ⟨a.ff, a.fh, fun c o e n => a.kp c o e fun z => n (h c z), a.th, a.fr⟩
/-- a new object, not frozen -/
theorem Gr.new {p : Addr} {o : HO} (a : Gr O F H F1 H1) (h : H1 p = none) : Gr O F H F1 (upd H1 p o) :=
  ⟨a.ff, fun b u q => by rw [upd_ne (ne_of_none (a.fh b u q) h)]; exact a.fh b u q, fun b u e n => by
    have q := a.kp b u e n
    rw [upd_ne (ne_of_none q h)]
    exact q, fun b e => by
    by_cases hb : b = p
    · subst hb
      rw [upd_same] at e
      cases e
    · rw [upd_ne hb] at e
      exact a.th b e, a.fr⟩
/-- a new object, frozen at once -/
theorem Gr.newF {p : Addr} {o : HO} (a : Gr O F H F1 H1) (h : H1 p = none) : Gr O F H (upd F1 p o) (upd H1 p o) := by
  have n1 : F1 p = none := a.fh.free h
  refine ⟨fun b u q => ?_, fun b u q => ?_, (a.new (o := o) h).kp, (a.new (o := o) h).th, fun b u q => ?_⟩
  · have z := a.ff b u q
    rw [upd_ne (ne_of_none z n1)]
    exact z
  · by_cases hb : b = p
    · subst hb
      rw [upd_same] at q
      rw [upd_same]
      exact q
    · rw [upd_ne hb] at q
      rw [upd_ne hb]
      exact a.fh b u q
  · by_cases hb : b = p
    · subst hb
      exact .inr (a.th b h)
    · rw [upd_ne hb] at q
      exact a.fr b u q
/-- an object that is new since H, or of O, is written -/
theorem Gr.set {p : Addr} {o u : HO} (a : Gr O F H F1 H1) (n : F1 p = none) (h : H1 p = some u) (hp : O p ∨ H p = none) : Gr O F H F1 (upd H1 p o) :=
  ⟨a.ff, fun b v q => by rw [upd_ne (ne_of_none q n)]; exact a.fh b v q, fun b v e k => by
    have nb : b ≠ p := fun z => by
      subst z
      rcases hp with q | q
      · exact k q
      · rw [q] at e
        cases e
    rw [upd_ne nb]
    exact a.kp b v e k, fun b e => by
    by_cases hb : b = p
    · subst hb
      rw [upd_same] at e
      cases e
    · rw [upd_ne hb] at e
      exact a.th b e, a.fr⟩
/-- an object made since H is frozen -/
theorem Gr.frz {p : Addr} {o : HO} (a : Gr O F H F1 H1) (n : F1 p = none) (h : H1 p = some o) (hp : H p = none) : Gr O F H (upd F1 p o) H1 :=
  ⟨fun b u q => by
    have z := a.ff b u q
    rw [upd_ne (ne_of_none z n)]
    exact z, fun b u q => by
    by_cases hb : b = p
    · subst hb
      rw [upd_same] at q
      cases q
      exact h
    · rw [upd_ne hb] at q
      exact a.fh b u q, a.kp, a.th, fun b u q => by
    by_cases hb : b = p
    · subst hb
      exact .inr hp
    · rw [upd_ne hb] at q
      exact a.fr b u q⟩
end
/-! ## rules that the layer lacks -/
section
variable {X : Cx}
/-- list + list, both read -/
def rCatS : R2 := fun x y H Q => ∃ l b xs zs, x = .ref l ∧ y = .ref b ∧ Rd H l (.lst xs) ∧ Rd H b (.lst zs) ∧ xs.length + zs.length ≤ sizeLine ∧ ∀ p, H p = none → Q (.ref p) (upd H p (.lst (xs ++ zs)))
theorem op_catS : OpR X (binaryOp .Add) rCatS := by
  intro pins s σ H x y v u Q I rx ry h
  obtain ⟨l, b, xs, zs, rfl, rfl, hH, hB, hz, q⟩ := h
  cases rx
  cases ry
  obtain ⟨z, its, n, r, e⟩ := hH.ok I.hok
  obtain ⟨z2, its2, n2, r2, e2⟩ := hB.ok I.hok
  have hl := r.length
  have hl2 := r2.length
  refine PySem.P.add_list e e2 ?_ (by rw [List.size_toArray, List.size_toArray]; omega)
  have ea : its.toArray ++ its2.toArray = (its ++ its2).toArray := by simp
  rw [ea]
  exact ⟨.ref _, _, I.lnew (t' := s.toks) (r.append r2) (by rw [List.length_append]; omega), rfl, q _ I.fresh⟩
/-- text * int -/
def repS (z : Str) (n : Int) : Str := Txt.mul z n
def rMulS : R2 := fun x y H Q => ∃ z n, x = .str z ∧ y = .int n ∧ MulOk z n ∧ Q (.str (Txt.mul z n)) H
theorem op_mul_str : OpR X (binaryOp .Mult) rMulS := by
  intro pins s σ H x y v u Q I rx ry h
  obtain ⟨z, n, rfl, rfl, hm, q⟩ := h
  obtain ⟨t, rfl⟩ := rx
  obtain ⟨t', rfl⟩ := ry
  exact SB.mul hm fun t' k => ⟨.str _, H, I.tok _, ⟨_, rfl⟩, q⟩
/-! ### the same rules with the written part by its name: for a comprehension's block -/
theorem ix_tupK {K : PySem.W.Frag} (h : X.K = K) : IxR X (rIxT K) := h ▸ ix_tup
theorem ix_listK {K : PySem.W.Frag} (h : X.K = K) : IxR X (rIxL K) := h ▸ ix_list
theorem op_in_seqK {K : PySem.W.Frag} (h : X.K = K) : OpR X (compareOp .In) (rIn K false) := h ▸ op_in_seq
theorem op_notIn_seqK {K : PySem.W.Frag} (h : X.K = K) : OpR X (compareOp .NotIn) (rIn K true) := h ▸ op_notIn_seq
theorem sl_listK {K : PySem.W.Frag} (h : X.K = K) : SlR X (rSlL K) := h ▸ sl_list
theorem sl_tupAK {K : PySem.W.Frag} (h : X.K = K) : SlR X (rSlA K) := h ▸ sl_tupA
theorem op_catAK {K : PySem.W.Frag} (h : X.K = K) : OpR X (binaryOp .Add) (rCatA K) := h ▸ op_catA
theorem call_len_seqK {K : PySem.W.Frag} (h : X.K = K) : CallR X (.builtin "len") (fun xs H Q => ∃ p ys, xs = [.ref p] ∧ (SqL K H p ys ∨ SqT K H p ys) ∧ Q (.int (ys.length : Nat)) H) := h ▸ call_len_seq
theorem call_tuple_ofK {K : PySem.W.Frag} (h : X.K = K) : CallR X (.type "tuple") (fun xs H Q => ∃ p ys, xs = [.ref p] ∧ ((SqL K H p ys ∧ ∀ l, H l = none → Q (.ref l) (upd H l (.tup ys))) ∨ (SqT K H p ys ∧ Q (.ref p) H))) := h ▸ call_tuple_of
end
end Ca
namespace Ca
open PySem L2
/-! ## sums, remarks, rows as Lean data, and the Python data they stand for -/
structure Sm where
  num : Int
  parts : List (Str × Int)
def pd (p : Str × Int) : PyData := .tuple [.str p.1, .int p.2]
def Sm.d (s : Sm) : PyData := .tuple [.int s.num, .tuple (s.parts.map pd)]
/-- a remark; the place of an at is a datum (a label's text, a number) -/
inductive Rk where
  | most (s : Sm)
  | rest (s : Sm) (m : Int)
  | at (h : Str) (p : PyData)
  | not (r : Rk)
  | and (rs : List Rk)
  | or (rs : List Rk)
mutual
def Rk.d : Rk → PyData
  | .most s => .tuple [.str "most", s.d]
  | .rest s m => .tuple [.str "rest", s.d, .int m]
  | .at h p => .tuple [.str "at", .str h, p]
  | .not r => .tuple [.str "not", r.d]
  | .and rs => .tuple [.str "and", .tuple (Rk.ds rs)]
  | .or rs => .tuple [.str "or", .tuple (Rk.ds rs)]
def Rk.ds : List Rk → List PyData
  | [] => []
  | r :: rs => r.d :: Rk.ds rs
end
theorem Rk.ds_eq : ∀ rs : List Rk, Rk.ds rs = rs.map Rk.d
  | [] => rfl
  | r :: rs => by
    show r.d :: Rk.ds rs = r.d :: rs.map Rk.d
    rw [Rk.ds_eq rs]
def sd (p : Str × Sm) : PyData := .tuple [.str p.1, p.2.d]
/-- a row of a program; skip: what stands for no rows in the law's lists -/
inductive Row where
  | set (ss : List (Str × Sm))
  | wait (r : Rk)
  | iff (r : Rk) (a b : List Row)
  | whl (r : Rk) (a : List Row)
  | rounds (n : Int) (a : List Row)
  | either (ws : List (List Row))
  | take (l : Str)
  | give (l : Str)
  | label (l : Str)
  | say (r : Rk)
  | skip
mutual
def Row.d : Row → PyData
  | .set ss => .tuple [.str "set", .tuple (ss.map sd)]
  | .wait r => .tuple [.str "wait", r.d]
  | .iff r a b => .tuple [.str "if", r.d, .list (Row.ds a), .list (Row.ds b)]
  | .whl r a => .tuple [.str "while", r.d, .list (Row.ds a)]
  | .rounds n a => .tuple [.str "rounds", .int n, .list (Row.ds a)]
  | .either ws => .tuple [.str "either", .tuple (Row.dss ws)]
  | .take l => .tuple [.str "take", .str l]
  | .give l => .tuple [.str "give", .str l]
  | .label l => .tuple [.str "label", .str l]
  | .say r => .tuple [.str "say", r.d]
  | .skip => .tuple [.str "skip", .str ""]
def Row.ds : List Row → List PyData
  | [] => []
  | r :: rs => r.d :: Row.ds rs
def Row.dss : List (List Row) → List PyData
  | [] => []
  | r :: rs => .list (Row.ds r) :: Row.dss rs
end
theorem Row.ds_eq : ∀ rs : List Row, Row.ds rs = rs.map Row.d
  | [] => rfl
  | r :: rs => by
    show r.d :: Row.ds rs = r.d :: rs.map Row.d
    rw [Row.ds_eq rs]
/-- a list of rows as a datum -/
def rd (rs : List Row) : PyData := .list (rs.map Row.d)
theorem Row.dss_eq : ∀ rs : List (List Row), Row.dss rs = rs.map rd
  | [] => rfl
  | r :: rs => by
    show PyData.list (Row.ds r) :: Row.dss rs = rd r :: rs.map rd
    rw [Row.dss_eq rs, Row.ds_eq r]
    rfl
/-- the first word of a row -/
def Row.word : Row → Str
  | .set _ => "set"
  | .wait _ => "wait"
  | .iff _ _ _ => "if"
  | .whl _ _ => "while"
  | .rounds _ _ => "rounds"
  | .either _ => "either"
  | .take _ => "take"
  | .give _ => "give"
  | .label _ => "label"
  | .say _ => "say"
  | .skip => "skip"
def Row.mark : Row → Bool
  | .label _ => true
  | .say _ => true
  | _ => false
def Row.plain : Row → Bool
  | .set _ => true
  | .wait _ => true
  | .take _ => true
  | .give _ => true
  | _ => false
/-- the rows that are no labels and says -/
def stm (rs : List Row) : List Row := rs.filter fun r => !r.mark
/-! ## books -/
abbrev Bk := List (Str × Int)
def bk (b : Bk) : List (Key × V) := b.map fun p => (.inr p.1, .int p.2)
def lk (b : Bk) (x : Str) : Int := (b.lookup x).getD 0
theorem val_bk (x : Str) : ∀ b : Bk, valV (bk b) (.inr x) = (b.lookup x).map V.int
  | [] => rfl
  | (y, i) :: r => by
    have ih := val_bk x r
    by_cases e : y = x
    · subst e
      show valV ((Sum.inr y, V.int i) :: bk r) (Sum.inr y) = _
      rw [valV_pos rfl, List.lookup_cons]
      simp
    · show valV ((Sum.inr y, V.int i) :: bk r) (Sum.inr x) = _
      rw [valV_neg (fun z => e (Sum.inr.inj z)), ih, List.lookup_cons]
      have h : (x == y) = false := beq_eq_false_iff_ne.mpr fun z => e z.symm
      rw [h]
theorem lookup_mem {x : Str} : ∀ {b : Bk}, x ∈ b.map (·.1) → ∃ i, b.lookup x = some i
  | [], h => by simp at h
  | (y, i) :: r, h => by
    rw [List.lookup_cons]
    by_cases e : x = y
    · subst e
      exact ⟨i, by simp⟩
    · have hb : (x == y) = false := beq_eq_false_iff_ne.mpr e
      rw [hb]
      refine lookup_mem (b := r) ?_
      rcases List.mem_cons.mp h with z | z
      · exact absurd z e
      · exact z
theorem get_bk {b : Bk} {x : Str} (h : x ∈ b.map (·.1)) : valV (bk b) (.inr x) = some (.int (lk b x)) := by
  obtain ⟨i, e⟩ := lookup_mem h
  rw [val_bk, e]
  unfold lk
  rw [e]
  rfl
/-- what a sum comes to -/
def Sm.val (b : Bk) (s : Sm) : Int := s.parts.foldl (fun acc p => acc + p.2 * lk b p.1) s.num
/-- the sum can be reckoned -/
def Sm.In (b : Bk) (s : Sm) : Prop := ∀ p ∈ s.parts, p.1 ∈ b.map (·.1) ∧ (-(2 ^ 64) < p.2 ∧ p.2 < 2 ^ 64)
theorem fold_take {α β : Type} (f : β → α → β) (z : β) {l : List α} {i : Nat} {x : α} (h : l[i]? = some x) : (l.take (i + 1)).foldl f z = f ((l.take i).foldl f z) x := by
  rw [List.take_succ, h]
  show ((l.take i) ++ [x]).foldl f z = _
  rw [List.foldl_append]
  rfl
end Ca
namespace Ca
open PySem L2
/-! ## comprehensions whose items are values known ahead -/
def LcP {α : Type} (H1 : Hp) (l : List α) (h : α → Option V) (D : Addr) (i : Nat) (H : Hp) : Prop := H1 D = none ∧ Same H1 H ∧ H D = some (.lst ((l.take i).filterMap h))
section
variable {α : Type} {H1 H H4 : Hp} {l : List α} {h : α → Option V} {D : Addr} {i : Nat} {x : α} {y : V}
theorem LcP.start (hD : H1 D = none) : LcP H1 l h D 0 (upd H1 D (.lst [])) := ⟨hD, Same.new hD, upd_same⟩
theorem LcP.same (p : LcP H1 l h D i H) : Same H1 H := p.2.1
theorem LcP.put (p : LcP H1 l h D i H) (e : Same H H4) (hx : l[i]? = some x) (hy : h x = some y) (hs : l.length < 16000001) :
    ∃ acc, H4 D = some (.lst acc) ∧ acc.length < sizeLine ∧ LcP H1 l h D (i + 1) (upd H4 D (.lst (acc ++ [y]))) := by
  obtain ⟨p1, p2, p3⟩ := p
  refine ⟨_, e _ _ p3, ?_, p1, (p2.trans e).mut p1, ?_⟩
  · have h1 := List.length_filterMap_le h (l.take i)
    rw [List.length_take] at h1
    rw [sizeLine_eq]
    omega
  · rw [upd_same, List.take_succ, hx, List.filterMap_append]
    show some (HO.lst _) = some (HO.lst (_ ++ List.filterMap h [x]))
    rw [List.filterMap_cons, hy]
    rfl
theorem LcP.skip (p : LcP H1 l h D i H) (e : Same H H4) (hx : l[i]? = some x) (hy : h x = none) : LcP H1 l h D (i + 1) H4 := by
  obtain ⟨p1, p2, p3⟩ := p
  refine ⟨p1, p2.trans e, ?_⟩
  rw [e _ _ p3, List.take_succ, hx, List.filterMap_append]
  show some (HO.lst _) = some (HO.lst (_ ++ List.filterMap h [x]))
  rw [List.filterMap_cons, hy]
  show _ = some (HO.lst (_ ++ []))
  rw [List.append_nil]
theorem LcP.end_ (p : LcP H1 l h D l.length H) : H1 D = none ∧ Same H1 H ∧ H D = some (.lst (l.filterMap h)) := by
  obtain ⟨p1, p2, p3⟩ := p
  rw [List.take_length] at p3
  exact ⟨p1, p2, p3⟩
end
theorem fm_map {α : Type} (f : α → V) (l : List α) : l.filterMap (fun x => some (f x)) = l.map f := by
  induction l with
  | nil => rfl
  | cons a r ih => rw [List.filterMap_cons, List.map_cons, ih]
end Ca
namespace Ca
open PySem L2
/-! ## what remarks mean -/
def plc : PyData → Int
  | .int i => i
  | _ => 0
mutual
def Rk.holds (b ps : Bk) : Rk → Bool
  | .most s => decide (s.val b ≤ 0)
  | .rest s m => decide ((s.val b).fmod m = 0)
  | .at h p => decide (lk ps h = plc p)
  | .not r => !r.holds b ps
  | .and rs => (Rk.hs b ps rs).all id
  | .or rs => (Rk.hs b ps rs).any id
def Rk.hs (b ps : Bk) : List Rk → List Bool
  | [] => []
  | r :: rs => r.holds b ps :: Rk.hs b ps rs
end
theorem Rk.hs_eq (b ps : Bk) : ∀ rs : List Rk, Rk.hs b ps rs = rs.map (Rk.holds b ps)
  | [] => rfl
  | r :: rs => by
    show r.holds b ps :: Rk.hs b ps rs = r.holds b ps :: rs.map (Rk.holds b ps)
    rw [Rk.hs_eq b ps rs]
/-- of nesting below n, no and, or of more than ten -/
def Rk.Sz : Nat → Rk → Prop
  | 0, _ => False
  | _ + 1, .most s => s.parts.length ≤ 1000
  | _ + 1, .rest s _ => s.parts.length ≤ 1000
  | _ + 1, .at _ _ => True
  | n + 1, .not r => Rk.Sz n r
  | n + 1, .and rs => rs.length ≤ 10 ∧ ∀ r ∈ rs, Rk.Sz n r
  | n + 1, .or rs => rs.length ≤ 10 ∧ ∀ r ∈ rs, Rk.Sz n r
/-- a remark of numbered places that can be asked -/
def Rk.HOk (b ps : Bk) : Nat → Rk → Prop
  | 0, _ => False
  | _ + 1, .most s => s.In b
  | _ + 1, .rest s m => s.In b ∧ m ≠ 0
  | _ + 1, .at h p => h ∈ ps.map (·.1) ∧ ∃ i, p = .int i
  | n + 1, .not r => Rk.HOk b ps n r
  | n + 1, .and rs => rs.length ≤ 10 ∧ ∀ r ∈ rs, Rk.HOk b ps n r
  | n + 1, .or rs => rs.length ≤ 10 ∧ ∀ r ∈ rs, Rk.HOk b ps n r
mutual
def Rk.sums : Rk → List Sm
  | .most s => [s]
  | .rest s _ => [s]
  | .at _ _ => []
  | .not r => r.sums
  | .and rs => Rk.sumss rs
  | .or rs => Rk.sumss rs
def Rk.sumss : List Rk → List Sm
  | [] => []
  | r :: rs => r.sums ++ Rk.sumss rs
end
def atd (p : Str × PyData) : PyData := .tuple [.str "at", .str p.1, p.2]
mutual
def Rk.ats : Rk → List (Str × PyData)
  | .most _ => []
  | .rest _ _ => []
  | .at h p => [(h, p)]
  | .not r => r.ats
  | .and rs => Rk.atss rs
  | .or rs => Rk.atss rs
def Rk.atss : List Rk → List (Str × PyData)
  | [] => []
  | r :: rs => r.ats ++ Rk.atss rs
end
def Rk.subs : Rk → List Rk
  | .not r => [r]
  | .and rs => rs
  | .or rs => rs
  | _ => []
theorem Rk.sumss_eq : ∀ rs : List Rk, Rk.sumss rs = (rs.map Rk.sums).flatten
  | [] => rfl
  | r :: rs => by
    show r.sums ++ Rk.sumss rs = _
    rw [Rk.sumss_eq rs, List.map_cons, List.flatten_cons]
theorem Rk.atss_eq : ∀ rs : List Rk, Rk.atss rs = (rs.map Rk.ats).flatten
  | [] => rfl
  | r :: rs => by
    show r.ats ++ Rk.atss rs = _
    rw [Rk.atss_eq rs, List.map_cons, List.flatten_cons]
theorem len_flat {α β : Type} (f : α → List β) (m : Nat) : ∀ l : List α, (∀ x ∈ l, (f x).length ≤ m) → (l.map f).flatten.length ≤ l.length * m
  | [], _ => by simp
  | a :: r, h => by
    have h1 := h a List.mem_cons_self
    have h2 := len_flat f m r fun x hx => h x (List.mem_cons_of_mem _ hx)
    rw [List.map_cons, List.flatten_cons, List.length_append, List.length_cons, Nat.succ_mul]
    omega
theorem pow_one (n : Nat) : 1 ≤ 10 ^ n := Nat.one_le_pow _ _ (by decide)
theorem Rk.sums_len : ∀ (n : Nat) (r : Rk), r.Sz n → r.sums.length ≤ 10 ^ n
  | 0, _, h => h.elim
  | n + 1, .most _, _ => pow_one _
  | n + 1, .rest _ _, _ => pow_one _
  | n + 1, .at _ _, _ => Nat.zero_le _
  | n + 1, .not r, h => by
    have h1 := Rk.sums_len n r h
    have h2 : 10 ^ (n + 1) = 10 ^ n * 10 := rfl
    show r.sums.length ≤ _
    omega
  | n + 1, .and rs, h => by
    have h1 := len_flat Rk.sums (10 ^ n) rs fun x hx => Rk.sums_len n x (h.2 x hx)
    have h2 : rs.length * 10 ^ n ≤ 10 * 10 ^ n := Nat.mul_le_mul_right _ h.1
    have h3 : 10 ^ (n + 1) = 10 ^ n * 10 := rfl
    show (Rk.sumss rs).length ≤ _
    rw [Rk.sumss_eq]
    omega
  | n + 1, .or rs, h => by
    have h1 := len_flat Rk.sums (10 ^ n) rs fun x hx => Rk.sums_len n x (h.2 x hx)
    have h2 : rs.length * 10 ^ n ≤ 10 * 10 ^ n := Nat.mul_le_mul_right _ h.1
    have h3 : 10 ^ (n + 1) = 10 ^ n * 10 := rfl
    show (Rk.sumss rs).length ≤ _
    rw [Rk.sumss_eq]
    omega
theorem Rk.ats_len : ∀ (n : Nat) (r : Rk), r.Sz n → r.ats.length ≤ 10 ^ n
  | 0, _, h => h.elim
  | n + 1, .most _, _ => Nat.zero_le _
  | n + 1, .rest _ _, _ => Nat.zero_le _
  | n + 1, .at _ _, _ => pow_one _
  | n + 1, .not r, h => by
    have h1 := Rk.ats_len n r h
    have h2 : 10 ^ (n + 1) = 10 ^ n * 10 := rfl
    show r.ats.length ≤ _
    omega
  | n + 1, .and rs, h => by
    have h1 := len_flat Rk.ats (10 ^ n) rs fun x hx => Rk.ats_len n x (h.2 x hx)
    have h2 : rs.length * 10 ^ n ≤ 10 * 10 ^ n := Nat.mul_le_mul_right _ h.1
    have h3 : 10 ^ (n + 1) = 10 ^ n * 10 := rfl
    show (Rk.atss rs).length ≤ _
    rw [Rk.atss_eq]
    omega
  | n + 1, .or rs, h => by
    have h1 := len_flat Rk.ats (10 ^ n) rs fun x hx => Rk.ats_len n x (h.2 x hx)
    have h2 : rs.length * 10 ^ n ≤ 10 * 10 ^ n := Nat.mul_le_mul_right _ h.1
    have h3 : 10 ^ (n + 1) = 10 ^ n * 10 := rfl
    show (Rk.atss rs).length ≤ _
    rw [Rk.atss_eq]
    omega
theorem Rk.subs_sz : ∀ {n : Nat} {r : Rk}, r.Sz (n + 1) → r.subs.length ≤ 10 ∧ ∀ x ∈ r.subs, x.Sz n
  | _, .most _, _ => ⟨Nat.zero_le _, fun _ h => nomatch h⟩
  | _, .rest _ _, _ => ⟨Nat.zero_le _, fun _ h => nomatch h⟩
  | _, .at _ _, _ => ⟨Nat.zero_le _, fun _ h => nomatch h⟩
  | _, .not r, h => ⟨(by decide : 1 ≤ 10), fun x hx => by
    cases hx with
    | head => exact h
    | tail _ z => exact nomatch z⟩
  | _, .and _, h => h
  | _, .or _, h => h
/-! ## tests on words -/
theorem ite_ne {a b : Str} {A B : Prop} (h : ¬ a = b) (k : B) : if decide (V.str a = V.str b) = true then A else B := by
  rw [if_neg]
  · exact k
  · intro e
    exact h (V.str.inj (of_decide_eq_true e))
theorem ite_eq {a : Str} {A B : Prop} (k : A) : if decide (V.str a = V.str a) = true then A else B := by
  rw [if_pos (decide_eq_true rfl)]
  exact k
section
variable {K : PySem.W.Frag} {F : Hp}
theorem Das.getM {α : Type} {g : α → PyData} {l : List α} {vs : List V} {i : Nat} {v : V} (h : Das K F vs (l.map g)) (hi : vs[i]? = some v) : ∃ x, l[i]? = some x ∧ Da K F v (g x) := by
  obtain ⟨d, hd, hv⟩ := h.getV hi
  rw [List.getElem?_map] at hd
  cases hp : l[i]? with
  | none =>
    rw [hp] at hd
    cases hd
  | some x =>
    rw [hp] at hd
    cases hd
    exact ⟨x, rfl, hv⟩
theorem Das.lenM {α : Type} {g : α → PyData} {l : List α} {vs : List V} (h : Das K F vs (l.map g)) : vs.length = l.length := by rw [h.length, List.length_map]
/-- the parts of a remark's tuple -/
theorem Rk.at_not {v : V} {r : Rk} (h : Da K F v (Rk.not r).d) : ∃ a x, v = .ref a ∧ SqT K F a [.str "not", x] ∧ Da K F x r.d := by
  obtain ⟨a, x, y, rfl, h1, h2, h3⟩ := h.tup2
  cases h2.str_inv
  exact ⟨a, y, rfl, h1, h3⟩
theorem Rk.at_and {v : V} {rs : List Rk} (h : Da K F v (Rk.and rs).d) : ∃ a b xs, v = .ref a ∧ SqT K F a [.str "and", .ref b] ∧ SqT K F b xs ∧ Das K F xs (rs.map Rk.d) := by
  obtain ⟨a, x, y, rfl, h1, h2, h3⟩ := h.tup2
  cases h2.str_inv
  obtain ⟨b, xs, rfl, h4, h5⟩ := h3.tup_inv
  rw [Rk.ds_eq] at h5
  exact ⟨a, b, xs, rfl, h1, h4, h5⟩
theorem Rk.at_or {v : V} {rs : List Rk} (h : Da K F v (Rk.or rs).d) : ∃ a b xs, v = .ref a ∧ SqT K F a [.str "or", .ref b] ∧ SqT K F b xs ∧ Das K F xs (rs.map Rk.d) := by
  obtain ⟨a, x, y, rfl, h1, h2, h3⟩ := h.tup2
  cases h2.str_inv
  obtain ⟨b, xs, rfl, h4, h5⟩ := h3.tup_inv
  rw [Rk.ds_eq] at h5
  exact ⟨a, b, xs, rfl, h1, h4, h5⟩
theorem Rk.at_most {v : V} {s : Sm} (h : Da K F v (Rk.most s).d) : ∃ a x, v = .ref a ∧ SqT K F a [.str "most", x] ∧ Da K F x s.d := by
  obtain ⟨a, x, y, rfl, h1, h2, h3⟩ := h.tup2
  cases h2.str_inv
  exact ⟨a, y, rfl, h1, h3⟩
theorem Rk.at_rest {v : V} {s : Sm} {m : Int} (h : Da K F v (Rk.rest s m).d) : ∃ a x, v = .ref a ∧ SqT K F a [.str "rest", x, .int m] ∧ Da K F x s.d := by
  obtain ⟨a, x, y, z, rfl, h1, h2, h3, h4⟩ := h.tup3
  cases h2.str_inv
  cases h4.int_inv
  exact ⟨a, y, rfl, h1, h3⟩
theorem Rk.at_at {v : V} {h : Str} {p : PyData} (k : Da K F v (Rk.at h p).d) : ∃ a x, v = .ref a ∧ SqT K F a [.str "at", .str h, x] ∧ Da K F x p := by
  obtain ⟨a, x, y, z, rfl, h1, h2, h3, h4⟩ := k.tup3
  cases h2.str_inv
  cases h3.str_inv
  exact ⟨a, z, rfl, h1, h4⟩
end
/-! ## the module's names -/
structure Glb (K : PySem.W.Frag) (mg : Str → Option Value) : Prop where
  MARKS : ∃ a, mg "MARKS" = some (.ref a) ∧ ∀ H, SqT K H a [.str "label", .str "say"]
  PLAIN : ∃ a, mg "PLAIN" = some (.ref a) ∧ ∀ H, SqT K H a [.str "set", .str "wait", .str "take", .str "give"]
  TRUE : ∃ a, mg "TRUE" = some (.ref a) ∧ ∀ H, Da K H (.ref a) (Rk.d (.and []))
  MOST_PLACES : ∃ t, mg "MOST_PLACES" = some (.int 24 t)
  MOST_STEPS : ∃ t, mg "MOST_STEPS" = some (.int 40 t)
  range : mg "range" = none
  len : mg "len" = none
  all : mg "all" = none
  any : mg "any" = none
  sorted : mg "sorted" = none
  tuple : mg "tuple" = none
  list : mg "list" = none
  dict : mg "dict" = none
  zip : mg "zip" = none
  int : mg "int" = none
  min : mg "min" = none
  sum : mg "sum" = none
  reversed : mg "reversed" = none
section
variable {P : Program} {w : World} {K : PySem.W.Frag} {mg : Str → Option Value} {base : Heap}
/-- a def of which nothing is asked -/
theorem FunAt.none {x : Str} {st : Stmt} {ps : List Str} {k : Nat} {sp : Sp} (F : FunAt K mg x st)
    (hb : ∀ (kV doc pm : Value) (an : Option Addr) (cdv ct : Value) (us : List Value), us.length = ps.length → bindArgs (PySem.W.fnOf x x (defArgs st) (defBody st) (defScope st) .none kV doc pm an cdv ct) ⟨us, []⟩ = pure (ps.zip us))
    (no : ∀ vs H Q E, ¬ sp vs H Q E) : Cal P w K mg base x k ps sp := by
  obtain ⟨f, fd, h1, h2⟩ := F.ex
  exact ⟨f, fd, h1, h2.kp, h2.binds hb, ⟨fun vs H Q E z => absurd z (no vs H Q E), fun A outer s H args us vs Q E _ _ _ _ z => absurd z (no vs H Q E)⟩⟩
end
end Ca
namespace Ca
open PySem L2
/-! ## what the law's trees are like -/
structure En where
  mine : List Str
  locks : List Str
  all : List Str
  hands : List Str
def Sm.Ok (N : List Str) (s : Sm) : Prop := s.parts.length ≤ 10 ∧ ∀ p ∈ s.parts, p.1 ∈ N ∧ PyData.strOk p.1 = true ∧ -(2 ^ 64) < p.2 ∧ p.2 < 2 ^ 64
def Rk.Ok (N Hs : List Str) : Nat → Rk → Prop
  | 0, _ => False
  | _ + 1, .most s => s.Ok N
  | _ + 1, .rest s m => s.Ok N ∧ 2 ≤ m ∧ m ≤ 12
  | _ + 1, .at h p => h ∈ Hs ∧ PyData.strOk h = true ∧ (p = .str "lab" ∨ p = .str "fin")
  | n + 1, .not r => Rk.Ok N Hs n r
  | n + 1, .and rs => rs.length ≤ 10 ∧ ∀ r ∈ rs, Rk.Ok N Hs n r
  | n + 1, .or rs => rs.length ≤ 10 ∧ ∀ r ∈ rs, Rk.Ok N Hs n r
def Row.Ok (E : En) : Nat → Row → Prop
  | 0, _ => False
  | _ + 1, .set ss => ss.length ≤ 10 ∧ (ss.map (·.1)).Nodup ∧ ∀ p ∈ ss, p.1 ∈ E.mine ∧ PyData.strOk p.1 = true ∧ p.2.Ok (E.mine ++ E.locks)
  | _ + 1, .wait r => r.Ok (E.mine ++ E.locks) E.hands 2
  | _ + 1, .take l => l ∈ E.locks ∧ PyData.strOk l = true
  | _ + 1, .give l => l ∈ E.locks ∧ PyData.strOk l = true
  | n + 1, .iff r a b => r.Ok (E.mine ++ E.locks) E.hands 2 ∧ a.length ≤ 4 ∧ (∀ x ∈ a, Row.Ok E n x) ∧ b.length ≤ 4 ∧ ∀ x ∈ b, Row.Ok E n x
  | n + 1, .whl r a => r.Ok (E.mine ++ E.locks) E.hands 2 ∧ a.length ≤ 4 ∧ ∀ x ∈ a, Row.Ok E n x
  | n + 1, .rounds k a => 0 ≤ k ∧ k ≤ 3 ∧ a.length ≤ 4 ∧ ∀ x ∈ a, Row.Ok E n x
  | n + 1, .either ws => 2 ≤ ws.length ∧ ws.length ≤ 5 ∧ ∀ w ∈ ws, w.length ≤ 4 ∧ ∀ x ∈ w, Row.Ok E n x
  | _ + 1, .say r => r.Ok E.all E.hands 2
  | _ + 1, .label _ => False
  | _ + 1, .skip => False
/-- rows whose statements are such -/
def RowsOk (E : En) (n : Nat) (rs : List Row) : Prop := rs.length ≤ 100000 ∧ ∀ x ∈ stm rs, x.Ok E n
theorem mem_stm {x : Row} {rs : List Row} (h : x ∈ stm rs) : x ∈ rs ∧ x.mark = false := by
  obtain ⟨h1, h2⟩ := List.mem_filter.mp h
  refine ⟨h1, ?_⟩
  cases e : x.mark with
  | false => rfl
  | true =>
    rw [e] at h2
    cases h2
theorem rowsOk_of {E : En} {n : Nat} {rs : List Row} (h : rs.length ≤ 4) (k : ∀ x ∈ rs, Row.Ok E n x) : RowsOk E n rs := ⟨by omega, fun x hx => k x (mem_stm hx).1⟩
/-! ## data that can be compared -/
def Lay (k : Nat) (d : PyData) : Prop := d.canLay0 = true ∧ d.depth ≤ k
theorem Lay.mono {j k : Nat} {d : PyData} (h : Lay j d) (e : j ≤ k) : Lay k d := ⟨h.1, Nat.le_trans h.2 e⟩
theorem lay_all {k : Nat} : ∀ {ds : List PyData}, (∀ d ∈ ds, Lay k d) → PyData.canLayAll0 ds = true ∧ PyData.depthAll ds ≤ k
  | [], _ => ⟨rfl, Nat.zero_le _⟩
  | d :: ds, h => by
    obtain ⟨h1, h2⟩ := h d List.mem_cons_self
    obtain ⟨h3, h4⟩ := lay_all (ds := ds) fun x hx => h x (List.mem_cons_of_mem _ hx)
    refine ⟨?_, ?_⟩
    · show (d.canLay0 && PyData.canLayAll0 ds) = true
      rw [h1, h3]
      rfl
    · show max d.depth (PyData.depthAll ds) ≤ k
      exact Nat.max_le.mpr ⟨h2, h4⟩
theorem lay_tup {k : Nat} {ds : List PyData} (h : ∀ d ∈ ds, Lay k d) : Lay (k + 1) (.tuple ds) := by
  obtain ⟨h1, h2⟩ := lay_all h
  exact ⟨h1, Nat.succ_le_succ h2⟩
theorem lay_lst {k : Nat} {ds : List PyData} (h : ∀ d ∈ ds, Lay k d) : Lay (k + 1) (.list ds) := by
  obtain ⟨h1, h2⟩ := lay_all h
  exact ⟨h1, Nat.succ_le_succ h2⟩
theorem lay_int {k : Nat} (i : Int) : Lay k (.int i) := ⟨rfl, Nat.zero_le _⟩
theorem lay_str {k : Nat} {x : Str} (h : PyData.strOk x = true) : Lay k (.str x) := ⟨h, Nat.zero_le _⟩
theorem lay_m {α : Type} {k : Nat} {f : α → PyData} {l : List α} (h : ∀ x ∈ l, Lay k (f x)) : ∀ d ∈ l.map f, Lay k d := fun d hd => by
  obtain ⟨x, hx, rfl⟩ := List.mem_map.mp hd
  exact h x hx
theorem lay2 {k : Nat} {a b : PyData} (h1 : Lay k a) (h2 : Lay k b) : ∀ d ∈ [a, b], Lay k d := fun d hd => by
  rcases List.mem_cons.mp hd with rfl | hd
  · exact h1
  · rcases List.mem_cons.mp hd with rfl | hd
    · exact h2
    · exact nomatch hd
theorem lay3 {k : Nat} {a b c : PyData} (h1 : Lay k a) (h2 : Lay k b) (h3 : Lay k c) : ∀ d ∈ [a, b, c], Lay k d := fun d hd => by
  rcases List.mem_cons.mp hd with rfl | hd
  · exact h1
  · exact lay2 h2 h3 d hd
theorem lay4 {k : Nat} {a b c e : PyData} (h1 : Lay k a) (h2 : Lay k b) (h3 : Lay k c) (h4 : Lay k e) : ∀ d ∈ [a, b, c, e], Lay k d := fun d hd => by
  rcases List.mem_cons.mp hd with rfl | hd
  · exact h1
  · exact lay3 h2 h3 h4 d hd
theorem Lay.shaped {k : Nat} {d : PyData} (h : Lay k d) (e : k ≤ 64) : SeqAt.shaped d = true := by
  unfold SeqAt.shaped
  rw [h.1, decide_eq_true (Nat.le_trans h.2 e)]
  rfl
theorem Sm.lay {N : List Str} {s : Sm} (h : s.Ok N) : Lay 3 s.d :=
  lay_tup (lay2 (lay_int _) (lay_tup (lay_m fun p hp => lay_tup (k := 0) (lay2 (lay_str (h.2 p hp).2.1) (lay_int _)))))
theorem Rk.lay {N Hs : List Str} : ∀ (n : Nat) (r : Rk), r.Ok N Hs n → Lay (2 * n + 2) r.d
  | 0, _, h => h.elim
  | n + 1, .most s, h => (lay_tup (lay2 (lay_str (by decide +kernel)) (Sm.lay h))).mono (by omega)
  | n + 1, .rest s m, h => (lay_tup (lay3 (lay_str (by decide +kernel)) (Sm.lay h.1) (lay_int _))).mono (by omega)
  | n + 1, .at x p, h => (lay_tup (k := 0) (lay3 (lay_str (by decide +kernel)) (lay_str h.2.1) (by
      rcases h.2.2 with rfl | rfl
      · exact lay_str (by decide +kernel)
      · exact lay_str (by decide +kernel)))).mono (by omega)
  | n + 1, .not r, h => (lay_tup (lay2 (lay_str (by decide +kernel)) (Rk.lay n r h))).mono (by omega)
  | n + 1, .and rs, h => by
    have z : Lay (2 * n + 2 + 2) (.tuple [.str "and", .tuple (rs.map Rk.d)]) := lay_tup (lay2 (lay_str (by decide +kernel)) (lay_tup (lay_m fun r hr => Rk.lay n r (h.2 r hr))))
    rw [← Rk.ds_eq] at z
    exact z.mono (by omega)
  | n + 1, .or rs, h => by
    have z : Lay (2 * n + 2 + 2) (.tuple [.str "or", .tuple (rs.map Rk.d)]) := lay_tup (lay2 (lay_str (by decide +kernel)) (lay_tup (lay_m fun r hr => Rk.lay n r (h.2 r hr))))
    rw [← Rk.ds_eq] at z
    exact z.mono (by omega)
theorem Row.lay {E : En} : ∀ (n : Nat) (r : Row), r.Ok E n → Lay (3 * n + 8) r.d
  | 0, _, h => h.elim
  | n + 1, .set ss, h => (lay_tup (k := 5) (lay2 (lay_str (by decide +kernel)) (lay_tup (lay_m fun p hp => lay_tup (lay2 (lay_str (h.2.2 p hp).2.1) (Sm.lay (h.2.2 p hp).2.2)))))).mono (by omega)
  | n + 1, .wait r, h => (lay_tup (lay2 (lay_str (by decide +kernel)) (Rk.lay 2 r h))).mono (by omega)
  | n + 1, .take l, h => (lay_tup (k := 0) (lay2 (lay_str (by decide +kernel)) (lay_str h.2))).mono (by omega)
  | n + 1, .give l, h => (lay_tup (k := 0) (lay2 (lay_str (by decide +kernel)) (lay_str h.2))).mono (by omega)
  | n + 1, .say r, h => (lay_tup (lay2 (lay_str (by decide +kernel)) (Rk.lay 2 r h))).mono (by omega)
  | n + 1, .iff r a b, h => by
    have z : Lay (3 * n + 8 + 2) (.tuple [.str "if", r.d, .list (a.map Row.d), .list (b.map Row.d)]) := lay_tup (lay4 (lay_str (by decide +kernel)) ((Rk.lay 2 r h.1).mono (by omega)) (lay_lst (lay_m fun x hx => Row.lay n x (h.2.2.1 x hx))) (lay_lst (lay_m fun x hx => Row.lay n x (h.2.2.2.2 x hx))))
    rw [← Row.ds_eq, ← Row.ds_eq] at z
    exact z.mono (by omega)
  | n + 1, .whl r a, h => by
    have z : Lay (3 * n + 8 + 2) (.tuple [.str "while", r.d, .list (a.map Row.d)]) := lay_tup (lay3 (lay_str (by decide +kernel)) ((Rk.lay 2 r h.1).mono (by omega)) (lay_lst (lay_m fun x hx => Row.lay n x (h.2.2 x hx))))
    rw [← Row.ds_eq] at z
    exact z.mono (by omega)
  | n + 1, .rounds k a, h => by
    have z : Lay (3 * n + 8 + 2) (.tuple [.str "rounds", .int k, .list (a.map Row.d)]) := lay_tup (lay3 (lay_str (by decide +kernel)) (lay_int _) (lay_lst (lay_m fun x hx => Row.lay n x (h.2.2.2 x hx))))
    rw [← Row.ds_eq] at z
    exact z.mono (by omega)
  | n + 1, .either ws, h => by
    have z : Lay (3 * n + 8 + 3) (.tuple [.str "either", .tuple (ws.map rd)]) := lay_tup (lay2 (lay_str (by decide +kernel)) (lay_tup (lay_m fun w hw => lay_lst (lay_m fun x hx => Row.lay n x ((h.2.2 w hw).2 x hx)))))
    rw [← Row.dss_eq] at z
    exact z.mono (by omega)
theorem lay_rd {E : En} {n : Nat} {a : List Row} (h : ∀ x ∈ a, Row.Ok E n x) : Lay (3 * n + 9) (rd a) := lay_lst (lay_m fun x hx => Row.lay n x (h x hx))
theorem eqv_nil (ds : List PyData) : PyData.eqv (.list ds) (.list []) = ds.isEmpty := by
  cases ds <;> rfl
theorem Rk.sz_of {N Hs : List Str} : ∀ (n : Nat) (r : Rk), r.Ok N Hs n → r.Sz n
  | 0, _, h => h.elim
  | n + 1, .most s, h => Nat.le_trans h.1 (by decide)
  | n + 1, .rest s m, h => Nat.le_trans h.1.1 (by decide)
  | n + 1, .at _ _, _ => trivial
  | n + 1, .not r, h => Rk.sz_of n r h
  | n + 1, .and rs, h => ⟨h.1, fun r hr => Rk.sz_of n r (h.2 r hr)⟩
  | n + 1, .or rs, h => ⟨h.1, fun r hr => Rk.sz_of n r (h.2 r hr)⟩
/-! ## places and steps counted -/
/-- of rows from one place to another -/
def cntX (a : List Row) (s : Int × Int) : Int × Int := if stm a = [] then (0, 1) else (((stm a).length : Int) - 1 + s.1, s.2)
mutual
def Row.cnt : Row → Int × Int
  | .whl _ a => (1 + (cntX a (Row.cntS a)).1, 2 + (cntX a (Row.cntS a)).2)
  | .iff _ a b => if b = [] then (1 + (cntX a (Row.cntS a)).1, 2 + (cntX a (Row.cntS a)).2)
      else (2 + (cntX a (Row.cntS a)).1 + (cntX b (Row.cntS b)).1, 2 + (cntX a (Row.cntS a)).2 + (cntX b (Row.cntS b)).2)
  | .rounds n a => if ((stm a).length : Int) * n = 0 then (0, 1) else ((cntX a (Row.cntS a)).1 * n + n - 1, (cntX a (Row.cntS a)).2 * n)
  | .either ws => ((ws.length : Int) + (Row.cntW ws).1, (ws.length : Int) + (Row.cntW ws).2)
  | _ => (0, 1)
def Row.cntS : List Row → Int × Int
  | [] => (0, 0)
  | r :: rs => if r.mark then Row.cntS rs else (r.cnt.1 + (Row.cntS rs).1, r.cnt.2 + (Row.cntS rs).2)
def Row.cntW : List (List Row) → Int × Int
  | [] => (0, 0)
  | a :: ws => ((cntX a (Row.cntS a)).1 + (Row.cntW ws).1, (cntX a (Row.cntS a)).2 + (Row.cntW ws).2)
end
def cntR (a : List Row) : Int × Int := cntX a (Row.cntS a)
theorem stm_mark {r : Row} {rs : List Row} (h : r.mark = true) : stm (r :: rs) = stm rs := by
  unfold stm
  rw [List.filter_cons, h]
  exact if_neg (by decide)
theorem stm_cons {r : Row} {rs : List Row} (h : r.mark = false) : stm (r :: rs) = r :: stm rs := by
  unfold stm
  rw [List.filter_cons, h]
  exact if_pos rfl
theorem cntS_eq : ∀ a : List Row, Row.cntS a = (((stm a).map fun r => r.cnt.1).sum, ((stm a).map fun r => r.cnt.2).sum)
  | [] => rfl
  | r :: rs => by
    have ih := cntS_eq rs
    show (if r.mark then Row.cntS rs else (r.cnt.1 + (Row.cntS rs).1, r.cnt.2 + (Row.cntS rs).2)) = _
    cases e : r.mark with
    | true =>
      rw [stm_mark e, if_pos rfl]
      exact ih
    | false =>
      rw [stm_cons e, if_neg (by decide), ih, List.map_cons, List.map_cons, List.sum_cons, List.sum_cons]
theorem cntW_eq : ∀ ws : List (List Row), Row.cntW ws = ((ws.map fun a => (cntR a).1).sum, (ws.map fun a => (cntR a).2).sum)
  | [] => rfl
  | a :: ws => by
    show ((cntR a).1 + (Row.cntW ws).1, (cntR a).2 + (Row.cntW ws).2) = _
    rw [cntW_eq ws, List.map_cons, List.map_cons, List.sum_cons, List.sum_cons]
end Ca
namespace Ca
open PySem L2
/-! ## sums: value, boxes_of -/
abbrev s_value : Stmt := top 6
abbrev N_value : List Str := ["one", "book", "found", "box", "times"]
theorem sc_value : FnScope N_value ["one", "book"] (defScope s_value) := ⟨rfl, rfl, rfl, by decide +kernel, rfl, by decide +kernel, by decide +kernel⟩
-- cells: []  slots: 0=one 1=book 2=found 3=box 4=times
abbrev s_boxes_of : Stmt := top 7
abbrev N_boxes_of : List Str := ["one", "box", "times"]
theorem sc_boxes_of : FnScope N_boxes_of ["one"] (defScope s_boxes_of) := ⟨rfl, rfl, rfl, by decide +kernel, rfl, by decide +kernel, by decide +kernel⟩
-- cells: []  slots: 0=one 1=box 2=times
abbrev s_l_value : Stmt := top 64
abbrev N_l_value : List Str := ["_law_one", "_law_book", "_law_found", "_law_box_here", "_law_times"]
theorem sc_l_value : FnScope N_l_value ["_law_one", "_law_book"] (defScope s_l_value) := ⟨rfl, rfl, rfl, by decide +kernel, rfl, by decide +kernel, by decide +kernel⟩
-- cells: []  slots: 0=_law_one 1=_law_book 2=_law_found 3=_law_box_here 4=_law_times
/-- value, _law_value -/
def spValue (K : PySem.W.Frag) : Sp := Sp2 fun one book H Q => ∃ (s : Sm) (b : Bk) (a : Addr), Da K H one s.d ∧ book = .ref a ∧ H a = some (.dK (bk b)) ∧ s.In b ∧ ∀ H', Same H H' → Q (.int (s.val b)) H'
section
variable {P : Program} {w : World} {K : PySem.W.Frag} {mg : Str → Option Value} {base : Heap}
theorem ok_value (F : FunAt K mg "value" s_value) : Cal P w K mg base "value" 1 ["one", "book"] (spValue K) := by
  refine F.cal sc_value Sp2.len (fun _ _ _ _ _ _ us hl => match us, hl with | [_, _], _ => rfl) fun f cdv A outer s H vs Q E hr h => ?_
  have nd := sc_value.nd
  have hu := hu_of hr
  refine ⟨_, (pss_cons (ps_set (i := 2) nd rfl (Or.inl rfl) (pe_ix ix_tup (pv 0) pe_int (fun _ _ => rfl)))
    (pss_cons (ps_for PassesOwn.never rfl (pi_tup (pe_ix ix_tup (pv 0) pe_int (fun _ _ => rfl))) (pg_tup rfl (pgs_cons (pg_name (i := 3) nd rfl (Or.inl rfl)) (pgs_cons (pg_name (i := 4) nd rfl (Or.inl rfl)) pgs_nil)))
      (pss_one (ps_set (i := 2) nd rfl (Or.inl rfl) (pe_op op_add (pv 2) (pe_op op_mul (pv 4) (pe_dget hu (pv 1) (pv 3) (fun _ _ => rfl)))))))
    (pss_one (ps_ret (pv 2))))), ?_⟩
  obtain ⟨one, book, rfl, s, b, a, h1, rfl, hb, hin, q⟩ := h
  obtain ⟨t, x, y, rfl, hT, hx, hy⟩ := h1.tup2
  cases hx.int_inv
  obtain ⟨t2, ys, rfl, hP, hys⟩ := hy.tup_inv
  refine ⟨_, rfl, t, _, 0, _, rfl, rfl, hT, rfl, ?_⟩
  refine ⟨_, rfl, t, _, 1, _, rfl, rfl, hT, rfl, t2, rfl, ⟨_, hP⟩, for_tup (K := K) (a := t2) (xs := ys) (fun i σ H' => ∃ u v, σ = [some (.ref t), some (.ref a), some (.int ((s.parts.take i).foldl (fun acc p => acc + p.2 * lk b p.1) s.num)), u, v] ∧ Same H H')
    ⟨none, none, rfl, Same.refl _⟩ (fun i σ H' _ ⟨_, _, _, e⟩ => e.tup hP) ?_ ?_⟩
  · rintro i v σ H' hi ⟨u0, v0, rfl, e⟩
    obtain ⟨d, hd, hv⟩ := hys.getV hi
    rw [List.getElem?_map] at hd
    cases hp : s.parts[i]? with
    | none =>
      rw [hp] at hd
      cases hd
    | some p =>
      rw [hp] at hd
      cases hd
      obtain ⟨t3, x, y, rfl, hT3, hx3, hy3⟩ := hv.tup2
      cases hx3.str_inv
      cases hy3.int_inv
      obtain ⟨hm, hl⟩ := hin p (List.mem_of_getElem? hp)
      refine ⟨t3, _, rfl, e.tup hT3, rfl, _, _, rfl, _, _, rfl, rfl, ?_⟩
      refine ⟨_, rfl, _, rfl, _, rfl, _, rfl, a, .int (lk b p.1), rfl, ?_, _, _, rfl, rfl, .inl hl, _, _, rfl, rfl, ?_⟩
      · have g := DGet.k (k := Sum.inr p.1) (e _ _ hb)
        rw [get_bk hm] at g
        exact g
      · refine ⟨some (.str p.1), some (.int p.2), ?_, e⟩
        rw [fold_take _ _ hp]
        rfl
  · rintro σ H' ⟨u0, v0, rfl, e⟩
    refine ⟨_, rfl, ?_⟩
    have hl : ys.length = s.parts.length := by rw [hys.length, List.length_map]
    rw [hl, List.take_length]
    exact q H' e
theorem ok_lvalue (F : FunAt K mg "_law_value" s_l_value) : Cal P w K mg base "_law_value" 1 ["_law_one", "_law_book"] (spValue K) := by
  refine F.cal sc_l_value Sp2.len (fun _ _ _ _ _ _ us hl => match us, hl with | [_, _], _ => rfl) fun f cdv A outer s H vs Q E hr h => ?_
  have nd := sc_l_value.nd
  have hu := hu_of hr
  refine ⟨_, (pss_cons (ps_set (i := 2) nd rfl (Or.inl rfl) (pe_ix ix_tup (pv 0) pe_int (fun _ _ => rfl)))
    (pss_cons (ps_for PassesOwn.never rfl (pi_tup (pe_ix ix_tup (pv 0) pe_int (fun _ _ => rfl))) (pg_tup rfl (pgs_cons (pg_name (i := 3) nd rfl (Or.inl rfl)) (pgs_cons (pg_name (i := 4) nd rfl (Or.inl rfl)) pgs_nil)))
      (pss_one (ps_set (i := 2) nd rfl (Or.inl rfl) (pe_op op_add (pv 2) (pe_op op_mul (pv 4) (pe_dget hu (pv 1) (pv 3) (fun _ _ => rfl)))))))
    (pss_one (ps_ret (pv 2))))), ?_⟩
  obtain ⟨one, book, rfl, s, b, a, h1, rfl, hb, hin, q⟩ := h
  obtain ⟨t, x, y, rfl, hT, hx, hy⟩ := h1.tup2
  cases hx.int_inv
  obtain ⟨t2, ys, rfl, hP, hys⟩ := hy.tup_inv
  refine ⟨_, rfl, t, _, 0, _, rfl, rfl, hT, rfl, ?_⟩
  refine ⟨_, rfl, t, _, 1, _, rfl, rfl, hT, rfl, t2, rfl, ⟨_, hP⟩, for_tup (K := K) (a := t2) (xs := ys) (fun i σ H' => ∃ u v, σ = [some (.ref t), some (.ref a), some (.int ((s.parts.take i).foldl (fun acc p => acc + p.2 * lk b p.1) s.num)), u, v] ∧ Same H H')
    ⟨none, none, rfl, Same.refl _⟩ (fun i σ H' _ ⟨_, _, _, e⟩ => e.tup hP) ?_ ?_⟩
  · rintro i v σ H' hi ⟨u0, v0, rfl, e⟩
    obtain ⟨d, hd, hv⟩ := hys.getV hi
    rw [List.getElem?_map] at hd
    cases hp : s.parts[i]? with
    | none =>
      rw [hp] at hd
      cases hd
    | some p =>
      rw [hp] at hd
      cases hd
      obtain ⟨t3, x, y, rfl, hT3, hx3, hy3⟩ := hv.tup2
      cases hx3.str_inv
      cases hy3.int_inv
      obtain ⟨hm, hl⟩ := hin p (List.mem_of_getElem? hp)
      refine ⟨t3, _, rfl, e.tup hT3, rfl, _, _, rfl, _, _, rfl, rfl, ?_⟩
      refine ⟨_, rfl, _, rfl, _, rfl, _, rfl, a, .int (lk b p.1), rfl, ?_, _, _, rfl, rfl, .inl hl, _, _, rfl, rfl, ?_⟩
      · have g := DGet.k (k := Sum.inr p.1) (e _ _ hb)
        rw [get_bk hm] at g
        exact g
      · refine ⟨some (.str p.1), some (.int p.2), ?_, e⟩
        rw [fold_take _ _ hp]
        rfl
  · rintro σ H' ⟨u0, v0, rfl, e⟩
    refine ⟨_, rfl, ?_⟩
    have hl : ys.length = s.parts.length := by rw [hys.length, List.length_map]
    rw [hl, List.take_length]
    exact q H' e
def spBoxesOf (K : PySem.W.Frag) : Sp := Sp1 fun one H Q => ∃ (s : Sm), Da K H one s.d ∧ s.parts.length < 1000000 ∧ ∀ p H', H p = none → Same H H' → H' p = some (.lst (s.parts.map fun p => V.str p.1)) → Q (.ref p) H'
theorem ok_boxes_of (F : FunAt K mg "boxes_of" s_boxes_of) : Cal P w K mg base "boxes_of" 1 ["one"] (spBoxesOf K) := by
  refine F.cal sc_boxes_of Sp1.len (fun _ _ _ _ _ _ us hl => match us, hl with | [_], _ => rfl) fun f cdv A outer s H vs Q E hr h => ?_
  have nd := sc_boxes_of.nd
  have hu := hu_of hr
  refine ⟨_, (pss_one (ps_ret (pe_lc (own := [("box", 1), ("times", 2)]) (g := (gTup K 2 (gCons (gName 1) (gCons (gName 2) gNil)))) (tt := tYes) rfl nd (pi_tup (pe_ix ix_tup (pv 0) pe_int (fun _ _ => rfl))) (blkOk_by (own := [("box", 1), ("times", 2)]) (N := N_boxes_of) (sc := defScope s_boxes_of) (by decide +kernel)) (fun _ _ _ _ _ => (pg_tup rfl (pgs_cons (pg_name (i := 1) nd rfl (Or.inl rfl)) (pgs_cons (pg_name (i := 2) nd rfl (Or.inl rfl)) pgs_nil)))) (fun _ _ _ _ _ => pts_nil) (fun _ _ _ _ _ => (pv 1))))), ?_⟩
  obtain ⟨one, rfl, s, h1, hz, q⟩ := h
  obtain ⟨t, x, y, rfl, hT, hx, hy⟩ := h1.tup2
  obtain ⟨t2, ys, rfl, hP, hys⟩ := hy.tup_inv
  have hlen : ys.length = s.parts.length := by rw [hys.length, List.length_map]
  refine ⟨_, rfl, t, _, 1, _, rfl, rfl, hT, rfl, t2, rfl, ⟨_, hP⟩, fun D hD => lc_tup (K := K) (a := t2) (xs := ys) (LcP H s.parts (fun p => some (V.str p.1)) D)
    (LcP.start hD) (fun i H' _ p => p.same.tup hP) ?_ ?_⟩
  · intro i v H' hi p
    obtain ⟨d, hd, hv⟩ := hys.getV hi
    rw [List.getElem?_map] at hd
    cases hp : s.parts[i]? with
    | none =>
      rw [hp] at hd
      cases hd
    | some pr =>
      rw [hp] at hd
      cases hd
      obtain ⟨t3, x3, y3, rfl, hT3, hx3, hy3⟩ := hv.tup2
      cases hx3.str_inv
      cases hy3.int_inv
      refine ⟨t3, _, rfl, p.same.tup hT3, rfl, _, _, rfl, _, _, rfl, rfl, rfl, ?_⟩
      exact ⟨_, rfl, p.put (Same.refl _) hp rfl (by omega)⟩
  · intro H' p
    rw [hlen] at p
    obtain ⟨p1, p2, p3⟩ := p.end_
    rw [fm_map] at p3
    exact q D H' p1 p2 p3
end
end Ca
namespace Ca
open PySem L2
abbrev s_statements : Stmt := top 17
abbrev N_statements : List Str := ["rows", "row"]
theorem sc_statements : FnScope N_statements ["rows"] (defScope s_statements) := ⟨rfl, rfl, rfl, by decide +kernel, rfl, by decide +kernel, by decide +kernel⟩
-- cells: []  slots: 0=rows 1=row
abbrev s_l_statements : Stmt := top 59
abbrev N_l_statements : List Str := ["_law_rows_here", "_law_row"]
theorem sc_l_statements : FnScope N_l_statements ["_law_rows_here"] (defScope s_l_statements) := ⟨rfl, rfl, rfl, by decide +kernel, rfl, by decide +kernel, by decide +kernel⟩
-- cells: []  slots: 0=_law_rows_here 1=_law_row
section
variable {P : Program} {w : World} {K : PySem.W.Frag} {mg : Str → Option Value} {base : Heap}
/-! ## rows -/
theorem Row.d_word : ∀ r : Row, ∃ ds, r.d = .tuple (.str r.word :: ds)
  | .set _ => ⟨_, rfl⟩
  | .wait _ => ⟨_, rfl⟩
  | .iff _ _ _ => ⟨_, rfl⟩
  | .whl _ _ => ⟨_, rfl⟩
  | .rounds _ _ => ⟨_, rfl⟩
  | .either _ => ⟨_, rfl⟩
  | .take _ => ⟨_, rfl⟩
  | .give _ => ⟨_, rfl⟩
  | .label _ => ⟨_, rfl⟩
  | .say _ => ⟨_, rfl⟩
  | .skip => ⟨_, rfl⟩
theorem Row.at_word {F : Hp} {v : V} {r : Row} (h : Da K F v r.d) : ∃ a xs, v = .ref a ∧ SqT K F a (.str r.word :: xs) := by
  obtain ⟨ds, e⟩ := r.d_word
  rw [e] at h
  obtain ⟨a, xs, rfl, h1, h2⟩ := h.tup_inv
  obtain ⟨x, us, rfl, hx, _⟩ := h2.cons_inv
  cases hx.str_inv
  exact ⟨a, us, rfl, h1⟩
theorem mark_in : ∀ r : Row, inV (.str r.word) [.str "label", .str "say"] = r.mark
  | .set _ => (by decide +kernel : inV (.str "set") [.str "label", .str "say"] = false)
  | .wait _ => (by decide +kernel : inV (.str "wait") [.str "label", .str "say"] = false)
  | .iff _ _ _ => (by decide +kernel : inV (.str "if") [.str "label", .str "say"] = false)
  | .whl _ _ => (by decide +kernel : inV (.str "while") [.str "label", .str "say"] = false)
  | .rounds _ _ => (by decide +kernel : inV (.str "rounds") [.str "label", .str "say"] = false)
  | .either _ => (by decide +kernel : inV (.str "either") [.str "label", .str "say"] = false)
  | .take _ => (by decide +kernel : inV (.str "take") [.str "label", .str "say"] = false)
  | .give _ => (by decide +kernel : inV (.str "give") [.str "label", .str "say"] = false)
  | .label _ => (by decide +kernel : inV (.str "label") [.str "label", .str "say"] = true)
  | .say _ => (by decide +kernel : inV (.str "say") [.str "label", .str "say"] = true)
  | .skip => (by decide +kernel : inV (.str "skip") [.str "label", .str "say"] = false)
def stmH (p : V × Row) : Option V := if p.2.mark then none else some p.1
theorem stm_das {F : Hp} : ∀ {rs : List Row} {vs : List V}, Das K F vs (rs.map Row.d) → Das K F ((vs.zip rs).filterMap stmH) ((stm rs).map Row.d)
  | [], _, h => by
    cases h
    exact .nil
  | r :: rs, _, h => by
    obtain ⟨v, us, rfl, h1, h2⟩ := Das.cons_inv (d := r.d) (ds := rs.map Row.d) h
    have ih := stm_das h2
    show Das K F (((v, r) :: us.zip rs).filterMap stmH) ((stm (r :: rs)).map Row.d)
    rw [List.filterMap_cons]
    unfold stm
    cases e : r.mark with
    | true =>
      have e1 : stmH (v, r) = none := by
        unfold stmH
        rw [if_pos e]
      rw [e1, List.filter_cons, if_neg (by rw [e]; decide)]
      exact ih
    | false =>
      have e1 : stmH (v, r) = some v := by
        unfold stmH
        rw [if_neg (by rw [e]; decide)]
      rw [e1, List.filter_cons, if_pos (by rw [e]; decide), List.map_cons]
      exact .cons h1 ih
/-- a list of rows that stands in F -/
def RowsAt (K : PySem.W.Frag) (F : Hp) (v : V) (rs : List Row) : Prop := Da K F v (rd rs)
def spStm (K : PySem.W.Frag) : Sp := Sp1 fun rows H Q => ∃ (F : Hp) (rs : List Row), Same F H ∧ Da K F rows (rd rs) ∧ rs.length < 1000000 ∧
  ∀ p H' ys, H p = none → Same H H' → H' p = some (.lst ys) → Das K F ys ((stm rs).map Row.d) → Q (.ref p) H'
theorem zip_get {α β : Type} : ∀ {l : List α} {m : List β} {i : Nat} {x : α} {y : β}, l[i]? = some x → m[i]? = some y → (l.zip m)[i]? = some (x, y)
  | [], _, _, _, _, h, _ => by simp at h
  | _ :: _, [], _, _, _, _, h => by simp at h
  | a :: l, b :: m, 0, x, y, h, k => by
    simp at h k
    subst h k
    rfl
  | a :: l, b :: m, i + 1, x, y, h, k => by
    have q := zip_get (l := l) (m := m) (i := i) (x := x) (y := y) (by simpa using h) (by simpa using k)
    simpa using q
theorem ok_statements (F : FunAt K mg "statements" s_statements) (G : Glb K mg) : Cal P w K mg base "statements" 1 ["rows"] (spStm K) := by
  refine F.cal sc_statements Sp1.len (fun _ _ _ _ _ _ us hl => match us, hl with | [_], _ => rfl) fun f cdv A outer s H vs Q E hr h => ?_
  have nd := sc_statements.nd
  have hu := hu_of hr
  obtain ⟨a_MARKS, m_MARKS, h_MARKS⟩ := G.MARKS
  refine ⟨_, (pss_one (ps_ret (pe_lc (own := [("row", 1)]) (g := (gName 1)) (tt := _) rfl nd (pi_list (pv 0)) (blkOk_by (own := [("row", 1)]) (N := N_statements) (sc := defScope s_statements) (by decide +kernel)) (fun _ _ _ _ _ => (pg_name (i := 1) nd rfl (Or.inl rfl))) (fun _ _ _ _ _ => (pts_one (pt_cmpR (op_notIn_seqK (K := K) rfl) (pe_ix (ix_tupK (K := K) rfl) (pv 1) pe_int (fun _ _ => rfl)) (pe_glob (v := .ref a_MARKS) rfl m_MARKS rfl) (by rfl)))) (fun _ _ _ _ _ => (pv 1))))), ?_⟩
  obtain ⟨rows, rfl, F0, rs, hF, h1, hz, q⟩ := h
  obtain ⟨a, vs, rfl, ha, hv⟩ := h1.lst_inv
  have hl : vs.length = rs.length := by rw [hv.length, List.length_map]
  have hzl : (vs.zip rs).length = rs.length := by rw [List.length_zip, hl, Nat.min_self]
  refine ⟨_, rfl, a, rfl, ⟨_, SqL.of (hF _ _ ha)⟩, fun D hD => lc_list (K := K) (a := a) (xs := vs) (LcP H (vs.zip rs) stmH D)
    (LcP.start hD) (fun i H' _ p => SqL.of (p.same _ _ (hF _ _ ha))) ?_ ?_⟩
  · intro i v H' hi p
    obtain ⟨d, hd, hvd⟩ := hv.getV hi
    rw [List.getElem?_map] at hd
    cases hr' : rs[i]? with
    | none =>
      rw [hr'] at hd
      cases hd
    | some r =>
      rw [hr'] at hd
      cases hd
      obtain ⟨b, xs, rfl, hb⟩ := Row.at_word hvd
      refine ⟨rfl, _, rfl, b, _, 0, _, rfl, rfl, p.same.tup (hF.tup hb), at0, a_MARKS, _, rfl, .inr (h_MARKS _), rfl, by decide +kernel, ?_⟩
      have e : (if true = true then !inV (.str r.word) [.str "label", .str "say"] else inV (.str r.word) [.str "label", .str "say"]) = !r.mark := by rw [if_pos rfl, mark_in]
      refine ⟨_, rfl, ?_⟩
      rw [e]
      refine ite2 (fun c => ?_) (fun c => ?_)
      · refine ⟨_, rfl, p.put (Same.refl _) (zip_get hi hr') ?_ (by omega)⟩
        unfold stmH
        rw [if_neg]
        intro z
        have z' : r.mark = true := z
        rw [z'] at c
        cases c
      · refine p.skip (Same.refl _) (zip_get hi hr') ?_
        unfold stmH
        rw [if_pos]
        show r.mark = true
        cases e2 : r.mark with
        | true => rfl
        | false =>
          rw [e2] at c
          exact absurd rfl c
  · intro H' p
    have e : vs.length = (vs.zip rs).length := by rw [hzl, hl]
    rw [e] at p
    obtain ⟨p1, p2, p3⟩ := p.end_
    exact q D H' _ p1 p2 p3 (stm_das hv)
theorem ok_lstatements (F : FunAt K mg "_law_statements" s_l_statements) (G : Glb K mg) : Cal P w K mg base "_law_statements" 1 ["_law_rows_here"] (spStm K) := by
  refine F.cal sc_l_statements Sp1.len (fun _ _ _ _ _ _ us hl => match us, hl with | [_], _ => rfl) fun f cdv A outer s H vs Q E hr h => ?_
  have nd := sc_l_statements.nd
  have hu := hu_of hr
  refine ⟨_, (pss_one (ps_ret (pe_lc (own := [("_law_row", 1)]) (g := (gName 1)) (tt := _) rfl nd (pi_list (pv 0)) (blkOk_by (own := [("_law_row", 1)]) (N := N_l_statements) (sc := defScope s_l_statements) (by decide +kernel)) (fun _ _ _ _ _ => (pg_name (i := 1) nd rfl (Or.inl rfl))) (fun _ _ _ _ _ => (pts_one (pt_cmpR (op_notIn_seqK (K := K) rfl) (pe_ix (ix_tupK (K := K) rfl) (pv 1) pe_int (fun _ _ => rfl)) (pe_tup (pa_cons pe_str (pa_cons pe_str pa_nil))) (by rfl)))) (fun _ _ _ _ _ => (pv 1))))), ?_⟩
  obtain ⟨rows, rfl, F0, rs, hF, h1, hz, q⟩ := h
  obtain ⟨a, vs, rfl, ha, hv⟩ := h1.lst_inv
  have hl : vs.length = rs.length := by rw [hv.length, List.length_map]
  have hzl : (vs.zip rs).length = rs.length := by rw [List.length_zip, hl, Nat.min_self]
  refine ⟨_, rfl, a, rfl, ⟨_, SqL.of (hF _ _ ha)⟩, fun D hD => lc_list (K := K) (a := a) (xs := vs) (LcP H (vs.zip rs) stmH D)
    (LcP.start hD) (fun i H' _ p => SqL.of (p.same _ _ (hF _ _ ha))) ?_ ?_⟩
  · intro i v H' hi p
    obtain ⟨d, hd, hvd⟩ := hv.getV hi
    rw [List.getElem?_map] at hd
    cases hr' : rs[i]? with
    | none =>
      rw [hr'] at hd
      cases hd
    | some r =>
      rw [hr'] at hd
      cases hd
      obtain ⟨b, xs, rfl, hb⟩ := Row.at_word hvd
      refine ⟨rfl, _, rfl, b, _, 0, _, rfl, rfl, p.same.tup (hF.tup hb), at0, (by show 2 ≤ sizeLine; decide), fun m hm => ⟨m, _, rfl, .inr (SqT.of upd_same), rfl, by decide +kernel, ?_⟩⟩
      have e : (if true = true then !inV (.str r.word) [.str "label", .str "say"] else inV (.str r.word) [.str "label", .str "say"]) = !r.mark := by rw [if_pos rfl, mark_in]
      refine ⟨_, rfl, ?_⟩
      rw [e]
      refine ite2 (fun c => ?_) (fun c => ?_)
      · refine ⟨_, rfl, p.put (Same.new hm) (zip_get hi hr') ?_ (by omega)⟩
        unfold stmH
        rw [if_neg]
        intro z
        have z' : r.mark = true := z
        rw [z'] at c
        cases c
      · refine p.skip (Same.new hm) (zip_get hi hr') ?_
        unfold stmH
        rw [if_pos]
        show r.mark = true
        cases e2 : r.mark with
        | true => rfl
        | false =>
          rw [e2] at c
          exact absurd rfl c
  · intro H' p
    have e : vs.length = (vs.zip rs).length := by rw [hzl, hl]
    rw [e] at p
    obtain ⟨p1, p2, p3⟩ := p.end_
    exact q D H' _ p1 p2 p3 (stm_das hv)
end
end Ca
namespace Ca
open PySem L2
abbrev s_members : Stmt := top 11
abbrev N_members : List Str := ["remark"]
theorem sc_members : FnScope N_members ["remark"] (defScope s_members) := ⟨rfl, rfl, rfl, by decide +kernel, rfl, by decide +kernel, by decide +kernel⟩
-- cells: []  slots: 0=remark
abbrev s_holds : Stmt := top 10
abbrev N_holds : List Str := ["remark", "book", "places", "word", "one"]
theorem sc_holds : FnScope N_holds ["remark", "book", "places"] (defScope s_holds) := ⟨rfl, rfl, rfl, by decide +kernel, rfl, by decide +kernel, by decide +kernel⟩
-- cells: ['book', 'places']  slots: 0=remark 1=book 2=places 3=word 4=one
section
variable {P : Program} {w : World} {K : PySem.W.Frag} {mg : Str → Option Value} {base : Heap}
def spMembers (K : PySem.W.Frag) : Sp := Sp1 fun rem H Q => ∃ (F : Hp) (r : Rk), Same F H ∧ Da K F rem r.d ∧
  ∀ p ys H', H p = none → Same H H' → H' p = some (.lst ys) → Das K F ys (r.subs.map Rk.d) → Q (.ref p) H'
theorem ok_members (F : FunAt K mg "members" s_members) (G : Glb K mg) : Cal P w K mg base "members" 1 ["remark"] (spMembers K) := by
  refine F.cal sc_members Sp1.len (fun _ _ _ _ _ _ us hl => match us, hl with | [_], _ => rfl) fun f cdv A outer s H vs Q E hr h => ?_
  have nd := sc_members.nd
  have hu := hu_of hr
  have m_list := G.list
  refine ⟨_, (pss_cons (ps_if (pt_cmpR op_eq (pe_ix ix_tup (pv 0) pe_int (fun _ _ => rfl)) pe_str (nomark _)) (pss_one (ps_ret (pe_lst (pa_cons (pe_ix ix_tup (pv 0) pe_int (fun _ _ => rfl)) pa_nil)))) pss_nil)
    (pss_cons (ps_if (PW.pt (pw_or (pt_cmpR op_eq (pe_ix ix_tup (pv 0) pe_int (fun _ _ => rfl)) pe_str (nomark _)) (pw_or1 (pt_cmpR op_eq (pe_ix ix_tup (pv 0) pe_int (fun _ _ => rfl)) pe_str (nomark _))))) (pss_one (ps_ret (pe_callTy call_list_of (by rfl) m_list (by decide +kernel) (pa_cons (pe_ix ix_tup (pv 0) pe_int (fun _ _ => rfl)) pa_nil)))) pss_nil)
    (pss_one (ps_ret (pe_lst pa_nil))))), ?_⟩
  obtain ⟨rem, rfl, F0, r, hF, h1, q⟩ := h
  cases r with
  | not r =>
    obtain ⟨a, x, rfl, h2, h3⟩ := Rk.at_not h1
    have h2 := hF.tup h2
    refine ⟨_, rfl, a, _, 0, _, rfl, rfl, h2, at0, rfl, _, rfl, ite_eq ?_⟩
    refine ⟨_, rfl, a, _, 1, _, rfl, rfl, h2, at1, (by show 1 ≤ sizeLine; decide), fun p hp => q p [x] _ hp (Same.new hp) upd_same (.cons h3 .nil)⟩
  | and rs =>
    obtain ⟨a, b, xs, rfl, h2, h3, h4⟩ := Rk.at_and h1
    have h2 := hF.tup h2
    refine ⟨_, rfl, a, _, 0, _, rfl, rfl, h2, at0, rfl, _, rfl, ite_ne (by decide +kernel) ?_⟩
    refine ⟨_, rfl, a, _, 0, _, rfl, rfl, h2, at0, rfl, _, rfl, ite_eq ?_⟩
    refine ⟨_, rfl, a, _, 1, _, rfl, rfl, h2, at1, b, xs, rfl, .inr (hF.tup h3), fun p hp => q p xs _ hp (Same.new hp) upd_same h4⟩
  | or rs =>
    obtain ⟨a, b, xs, rfl, h2, h3, h4⟩ := Rk.at_or h1
    have h2 := hF.tup h2
    refine ⟨_, rfl, a, _, 0, _, rfl, rfl, h2, at0, rfl, _, rfl, ite_ne (by decide +kernel) ?_⟩
    refine ⟨_, rfl, a, _, 0, _, rfl, rfl, h2, at0, rfl, _, rfl, ite_ne (by decide +kernel) ?_⟩
    refine ⟨_, rfl, a, _, 0, _, rfl, rfl, h2, at0, rfl, _, rfl, ite_eq ?_⟩
    refine ⟨_, rfl, a, _, 1, _, rfl, rfl, h2, at1, b, xs, rfl, .inr (hF.tup h3), fun p hp => q p xs _ hp (Same.new hp) upd_same h4⟩
  | most s =>
    obtain ⟨a, x, rfl, h2, h3⟩ := Rk.at_most h1
    have h2 := hF.tup h2
    refine ⟨_, rfl, a, _, 0, _, rfl, rfl, h2, at0, rfl, _, rfl, ite_ne (by decide +kernel) ?_⟩
    refine ⟨_, rfl, a, _, 0, _, rfl, rfl, h2, at0, rfl, _, rfl, ite_ne (by decide +kernel) ?_⟩
    refine ⟨_, rfl, a, _, 0, _, rfl, rfl, h2, at0, rfl, _, rfl, ite_ne (by decide +kernel) ?_⟩
    exact ⟨Nat.zero_le _, fun p hp => q p [] _ hp (Same.new hp) upd_same .nil⟩
  | rest s m =>
    obtain ⟨a, x, rfl, h2, h3⟩ := Rk.at_rest h1
    have h2 := hF.tup h2
    refine ⟨_, rfl, a, _, 0, _, rfl, rfl, h2, at0, rfl, _, rfl, ite_ne (by decide +kernel) ?_⟩
    refine ⟨_, rfl, a, _, 0, _, rfl, rfl, h2, at0, rfl, _, rfl, ite_ne (by decide +kernel) ?_⟩
    refine ⟨_, rfl, a, _, 0, _, rfl, rfl, h2, at0, rfl, _, rfl, ite_ne (by decide +kernel) ?_⟩
    exact ⟨Nat.zero_le _, fun p hp => q p [] _ hp (Same.new hp) upd_same .nil⟩
  | «at» h p0 =>
    obtain ⟨a, x, rfl, h2, h3⟩ := Rk.at_at h1
    have h2 := hF.tup h2
    refine ⟨_, rfl, a, _, 0, _, rfl, rfl, h2, at0, rfl, _, rfl, ite_ne (by decide +kernel) ?_⟩
    refine ⟨_, rfl, a, _, 0, _, rfl, rfl, h2, at0, rfl, _, rfl, ite_ne (by decide +kernel) ?_⟩
    refine ⟨_, rfl, a, _, 0, _, rfl, rfl, h2, at0, rfl, _, rfl, ite_ne (by decide +kernel) ?_⟩
    exact ⟨Nat.zero_le _, fun p hp => q p [] _ hp (Same.new hp) upd_same .nil⟩
/-! ## holds, of numbered places -/
def spHolds (K : PySem.W.Frag) (n : Nat) : Sp := Sp3 fun rem book places H Q => ∃ (r : Rk) (b ps : Bk) (a c : Addr), Da K H rem r.d ∧ book = .ref a ∧ H a = some (.dK (bk b)) ∧ places = .ref c ∧ H c = some (.dK (bk ps)) ∧ r.HOk b ps n ∧
  ∀ H', Same H H' → Q (.bl (r.holds b ps)) H'
theorem holds_step {n : Nat} (F : FunAt K mg "holds" s_holds) (G : Glb K mg) (c_value : Cal P w K mg base "value" 1 ["one", "book"] (spValue K)) (c_holds : Cal P w K mg base "holds" (n + 1) ["remark", "book", "places"] (spHolds K n)) :
    Cal P w K mg base "holds" (n + 2) ["remark", "book", "places"] (spHolds K (n + 1)) := by
  refine F.cal sc_holds Sp3.len (fun _ _ _ _ _ _ us hl => match us, hl with | [_, _, _], _ => rfl) fun f cdv A outer s H vs Q E hr h => ?_
  have nd := sc_holds.nd
  have hu := hu_of hr
  have m_all := G.all
  have m_any := G.any
  refine ⟨_, (pss_cons (ps_set (i := 3) nd rfl (Or.inl rfl) (pe_ix ix_tup (pv 0) pe_int (fun _ _ => rfl)))
    (pss_cons (ps_if (pt_cmpR op_eq (pv 3) pe_str (nomark _)) (pss_one (ps_ret (pe_cmpR op_le (pe_cal c_value hr rfl (pa_cons (pe_ix ix_tup (pv 0) pe_int (fun _ _ => rfl)) (pa_cons (pv 1) pa_nil))) pe_int (nomark _)))) pss_nil)
    (pss_cons (ps_if (pt_cmpR op_eq (pv 3) pe_str (nomark _)) (pss_one (ps_ret (pe_cmpR op_eq (pe_op op_modN (pe_cal c_value hr rfl (pa_cons (pe_ix ix_tup (pv 0) pe_int (fun _ _ => rfl)) (pa_cons (pv 1) pa_nil))) (pe_ix ix_tup (pv 0) pe_int (fun _ _ => rfl))) pe_int (nomark _)))) pss_nil)
    (pss_cons (ps_if (pt_cmpR op_eq (pv 3) pe_str (nomark _)) (pss_one (ps_ret (pe_cmpR op_eq (pe_dget hu (pv 2) (pe_ix ix_tup (pv 0) pe_int (fun _ _ => rfl)) (fun _ _ => rfl)) (pe_ix ix_tup (pv 0) pe_int (fun _ _ => rfl)) (nomark _)))) pss_nil)
    (pss_cons (ps_if (pt_cmpR op_eq (pv 3) pe_str (nomark _)) (pss_one (ps_ret (pe_not (pe_cal c_holds hr rfl (pa_cons (pe_ix ix_tup (pv 0) pe_int (fun _ _ => rfl)) (pa_cons (pv 1) (pa_cons (pv 2) pa_nil))))))) pss_nil)
    (pss_cons (ps_if (pt_cmpR op_eq (pv 3) pe_str (nomark _)) (pss_one (ps_ret (pe_callB (cr_all rfl) (by rfl) m_all (by decide +kernel) (pa_cons (pe_lc (own := [("one", 4)]) (g := (gName 4)) (tt := tYes) rfl nd (pi_tup (pe_ix ix_tup (pv 0) pe_int (fun _ _ => rfl))) (blkOk_by (own := [("one", 4)]) (N := N_holds) (sc := defScope s_holds) (by decide +kernel)) (fun _ _ _ _ _ => (pg_name (i := 4) nd rfl (Or.inl rfl))) (fun _ _ _ _ _ => pts_nil) (fun _ _ _ _ _ => (pe_cal c_holds hr rfl (pa_cons (pv 4) (pa_cons (pv 1) (pa_cons (pv 2) pa_nil)))))) pa_nil)))) pss_nil)
    (pss_one (ps_ret (pe_callB (cr_any rfl) (by rfl) m_any (by decide +kernel) (pa_cons (pe_lc (own := [("one", 4)]) (g := (gName 4)) (tt := tYes) rfl nd (pi_tup (pe_ix ix_tup (pv 0) pe_int (fun _ _ => rfl))) (blkOk_by (own := [("one", 4)]) (N := N_holds) (sc := defScope s_holds) (by decide +kernel)) (fun _ _ _ _ _ => (pg_name (i := 4) nd rfl (Or.inl rfl))) (fun _ _ _ _ _ => pts_nil) (fun _ _ _ _ _ => (pe_cal c_holds hr rfl (pa_cons (pv 4) (pa_cons (pv 1) (pa_cons (pv 2) pa_nil)))))) pa_nil)))))))))), ?_⟩
  obtain ⟨rem, book, places, rfl, r, b, ps, a, c, h1, rfl, ha, rfl, hc, hok, q⟩ := h
  cases r with
  | most s =>
    obtain ⟨t, x, rfl, h2, h3⟩ := Rk.at_most h1
    refine ⟨_, rfl, t, _, 0, _, rfl, rfl, h2, at0, ?_⟩
    refine ⟨_, rfl, rfl, _, rfl, ite_eq ?_⟩
    refine ⟨_, rfl, t, _, 1, _, rfl, rfl, h2, at1, _, rfl, _, _, rfl, s, b, a, h3, rfl, ha, hok, fun H' e => ?_⟩
    exact ⟨_, _, rfl, rfl, q H' e⟩
  | rest s m =>
    obtain ⟨t, x, rfl, h2, h3⟩ := Rk.at_rest h1
    refine ⟨_, rfl, t, _, 0, _, rfl, rfl, h2, at0, ?_⟩
    refine ⟨_, rfl, rfl, _, rfl, ite_ne (by decide +kernel) ?_⟩
    refine ⟨_, rfl, rfl, _, rfl, ite_eq ?_⟩
    refine ⟨_, rfl, t, _, 1, _, rfl, rfl, h2, at1, _, rfl, _, _, rfl, s, b, a, h3, rfl, ha, hok.1, fun H' e => ?_⟩
    refine ⟨_, rfl, t, _, 2, _, rfl, rfl, e.tup h2, rfl, _, _, rfl, rfl, hok.2, rfl, ?_⟩
    have z := q H' e
    have e2 : decide (V.int ((s.val b).fmod m) = V.int 0) = (Rk.rest s m).holds b ps := by
      show _ = decide ((s.val b).fmod m = 0)
      rw [Bool.eq_iff_iff]
      simp
    rw [← e2] at z
    exact z
  | «at» h p =>
    obtain ⟨t, x, rfl, h2, h3⟩ := Rk.at_at h1
    obtain ⟨hm, i, rfl⟩ := hok
    cases h3.int_inv
    refine ⟨_, rfl, t, _, 0, _, rfl, rfl, h2, at0, ?_⟩
    refine ⟨_, rfl, rfl, _, rfl, ite_ne (by decide +kernel) ?_⟩
    refine ⟨_, rfl, rfl, _, rfl, ite_ne (by decide +kernel) ?_⟩
    refine ⟨_, rfl, rfl, _, rfl, ite_eq ?_⟩
    have g := DGet.k (k := Sum.inr h) hc
    rw [get_bk hm] at g
    refine ⟨_, rfl, _, rfl, t, _, 1, _, rfl, rfl, h2, at1, c, _, rfl, g, _, rfl, t, _, 2, _, rfl, rfl, h2, rfl, rfl, ?_⟩
    have z := q H (Same.refl H)
    have e2 : decide (V.int (lk ps h) = V.int i) = (Rk.at h (.int i)).holds b ps := by
      show _ = decide (lk ps h = i)
      rw [Bool.eq_iff_iff]
      simp
    rw [← e2] at z
    exact z
  | not r =>
    obtain ⟨t, x, rfl, h2, h3⟩ := Rk.at_not h1
    refine ⟨_, rfl, t, _, 0, _, rfl, rfl, h2, at0, ?_⟩
    refine ⟨_, rfl, rfl, _, rfl, ite_ne (by decide +kernel) ?_⟩
    refine ⟨_, rfl, rfl, _, rfl, ite_ne (by decide +kernel) ?_⟩
    refine ⟨_, rfl, rfl, _, rfl, ite_ne (by decide +kernel) ?_⟩
    refine ⟨_, rfl, rfl, _, rfl, ite_eq ?_⟩
    refine ⟨_, rfl, t, _, 1, _, rfl, rfl, h2, at1, _, rfl, _, rfl, _, _, _, rfl, r, b, ps, a, c, h3, rfl, ha, rfl, hc, hok, fun H' e => ?_⟩
    exact ⟨_, rfl, q H' e⟩
  | and rs =>
    obtain ⟨t, t2, xs, rfl, h2, h3, h4⟩ := Rk.at_and h1
    refine ⟨_, rfl, t, _, 0, _, rfl, rfl, h2, at0, ?_⟩
    refine ⟨_, rfl, rfl, _, rfl, ite_ne (by decide +kernel) ?_⟩
    refine ⟨_, rfl, rfl, _, rfl, ite_ne (by decide +kernel) ?_⟩
    refine ⟨_, rfl, rfl, _, rfl, ite_ne (by decide +kernel) ?_⟩
    refine ⟨_, rfl, rfl, _, rfl, ite_ne (by decide +kernel) ?_⟩
    refine ⟨_, rfl, rfl, _, rfl, ite_eq ?_⟩
    refine ⟨_, rfl, t, _, 1, _, rfl, rfl, h2, at1, t2, rfl, ⟨_, h3⟩, fun D hD => lc_tup (K := K) (a := t2) (xs := xs) (LcP H rs (fun r => some (.bl (r.holds b ps))) D)
      (LcP.start hD) (fun i H' _ p => p.same.tup h3) ?_ ?_⟩
    · intro i v H' hi p
      obtain ⟨r, hr', hv⟩ := h4.getM hi
      refine ⟨rfl, _, rfl, _, rfl, _, rfl, _, _, _, rfl, r, b, ps, a, c, hv.mono p.same, rfl, p.same _ _ ha, rfl, p.same _ _ hc, hok.2 r (List.mem_of_getElem? hr'), fun H2 e => ?_⟩
      exact p.put e hr' rfl (by have := hok.1; omega)
    · intro H' p
      rw [h4.lenM] at p
      obtain ⟨p1, p2, p3⟩ := p.end_
      rw [fm_map] at p3
      have e : rs.map (fun r => V.bl (r.holds b ps)) = (rs.map (Rk.holds b ps)).map V.bl := by rw [List.map_map]; rfl
      rw [e] at p3
      refine ⟨D, _, rfl, SqL.of p3, ?_⟩
      have z := q H' p2
      have e2 : (Rk.and rs).holds b ps = (rs.map (Rk.holds b ps)).all id := by
        show (Rk.hs b ps rs).all id = _
        rw [Rk.hs_eq]
      rw [e2] at z
      exact z
  | or rs =>
    obtain ⟨t, t2, xs, rfl, h2, h3, h4⟩ := Rk.at_or h1
    refine ⟨_, rfl, t, _, 0, _, rfl, rfl, h2, at0, ?_⟩
    refine ⟨_, rfl, rfl, _, rfl, ite_ne (by decide +kernel) ?_⟩
    refine ⟨_, rfl, rfl, _, rfl, ite_ne (by decide +kernel) ?_⟩
    refine ⟨_, rfl, rfl, _, rfl, ite_ne (by decide +kernel) ?_⟩
    refine ⟨_, rfl, rfl, _, rfl, ite_ne (by decide +kernel) ?_⟩
    refine ⟨_, rfl, rfl, _, rfl, ite_ne (by decide +kernel) ?_⟩
    refine ⟨_, rfl, t, _, 1, _, rfl, rfl, h2, at1, t2, rfl, ⟨_, h3⟩, fun D hD => lc_tup (K := K) (a := t2) (xs := xs) (LcP H rs (fun r => some (.bl (r.holds b ps))) D)
      (LcP.start hD) (fun i H' _ p => p.same.tup h3) ?_ ?_⟩
    · intro i v H' hi p
      obtain ⟨r, hr', hv⟩ := h4.getM hi
      refine ⟨rfl, _, rfl, _, rfl, _, rfl, _, _, _, rfl, r, b, ps, a, c, hv.mono p.same, rfl, p.same _ _ ha, rfl, p.same _ _ hc, hok.2 r (List.mem_of_getElem? hr'), fun H2 e => ?_⟩
      exact p.put e hr' rfl (by have := hok.1; omega)
    · intro H' p
      rw [h4.lenM] at p
      obtain ⟨p1, p2, p3⟩ := p.end_
      rw [fm_map] at p3
      have e : rs.map (fun r => V.bl (r.holds b ps)) = (rs.map (Rk.holds b ps)).map V.bl := by rw [List.map_map]; rfl
      rw [e] at p3
      refine ⟨D, _, rfl, SqL.of p3, ?_⟩
      have z := q H' p2
      have e2 : (Rk.or rs).holds b ps = (rs.map (Rk.holds b ps)).any id := by
        show (Rk.hs b ps rs).any id = _
        rw [Rk.hs_eq]
      rw [e2] at z
      exact z
theorem ok_holds (F : FunAt K mg "holds" s_holds) (G : Glb K mg) (c_value : Cal P w K mg base "value" 1 ["one", "book"] (spValue K)) : ∀ n, Cal P w K mg base "holds" (n + 1) ["remark", "book", "places"] (spHolds K n)
  | 0 => F.none (fun _ _ _ _ _ _ us hl => match us, hl with | [_, _, _], _ => rfl) fun vs H Q E ⟨_, _, _, _, _, _, _, _, _, _, _, _, _, _, z, _⟩ => z
  | n + 1 => holds_step F G c_value (ok_holds F G c_value n)
end
end Ca
namespace Ca
open PySem L2
abbrev s_sums_in : Stmt := top 23
abbrev N_sums_in : List Str := ["remark", "found", "one"]
theorem sc_sums_in : FnScope N_sums_in ["remark"] (defScope s_sums_in) := ⟨rfl, rfl, rfl, by decide +kernel, rfl, by decide +kernel, by decide +kernel⟩
-- cells: []  slots: 0=remark 1=found 2=one
abbrev s_ats_in : Stmt := top 24
abbrev N_ats_in : List Str := ["remark", "found", "one"]
theorem sc_ats_in : FnScope N_ats_in ["remark"] (defScope s_ats_in) := ⟨rfl, rfl, rfl, by decide +kernel, rfl, by decide +kernel, by decide +kernel⟩
-- cells: []  slots: 0=remark 1=found 2=one
section
variable {P : Program} {w : World} {K : PySem.W.Frag} {mg : Str → Option Value} {base : Heap}
theorem Rk.sums_subs : ∀ {r : Rk}, (∀ s, r ≠ .most s) → (∀ s m, r ≠ .rest s m) → r.sums = (r.subs.map Rk.sums).flatten
  | .most s, h, _ => absurd rfl (h s)
  | .rest s m, _, h => absurd rfl (h s m)
  | .at _ _, _, _ => rfl
  | .not r, _, _ => by
    show r.sums = ([r].map Rk.sums).flatten
    simp
  | .and rs, _, _ => Rk.sumss_eq rs
  | .or rs, _, _ => Rk.sumss_eq rs
theorem Rk.ats_subs : ∀ {r : Rk}, (∀ h p, r ≠ .at h p) → r.ats = (r.subs.map Rk.ats).flatten
  | .most s, _ => rfl
  | .rest s m, _ => rfl
  | .at h p, k => absurd rfl (k h p)
  | .not r, _ => by
    show r.ats = ([r].map Rk.ats).flatten
    simp
  | .and rs, _ => Rk.atss_eq rs
  | .or rs, _ => Rk.atss_eq rs
def Rk.word : Rk → Str
  | .most _ => "most"
  | .rest _ _ => "rest"
  | .at _ _ => "at"
  | .not _ => "not"
  | .and _ => "and"
  | .or _ => "or"
theorem Rk.at_word {F : Hp} {v : V} {r : Rk} (h : Da K F v r.d) : ∃ a xs, v = .ref a ∧ SqT K F a (.str r.word :: xs) := by
  cases r with
  | most s => obtain ⟨a, x, rfl, h2, _⟩ := Rk.at_most h; exact ⟨a, _, rfl, h2⟩
  | rest s m => obtain ⟨a, x, rfl, h2, _⟩ := Rk.at_rest h; exact ⟨a, _, rfl, h2⟩
  | «at» s m => obtain ⟨a, x, rfl, h2, _⟩ := Rk.at_at h; exact ⟨a, _, rfl, h2⟩
  | not s => obtain ⟨a, x, rfl, h2, _⟩ := Rk.at_not h; exact ⟨a, _, rfl, h2⟩
  | and s => obtain ⟨a, b, x, rfl, h2, _⟩ := Rk.at_and h; exact ⟨a, _, rfl, h2⟩
  | or s => obtain ⟨a, b, x, rfl, h2, _⟩ := Rk.at_or h; exact ⟨a, _, rfl, h2⟩
theorem flat_take {α β : Type} (f : α → List β) {l : List α} {i : Nat} {x : α} (h : l[i]? = some x) : ((l.take (i + 1)).map f).flatten = ((l.take i).map f).flatten ++ f x := by
  rw [List.take_succ, h, List.map_append, List.flatten_append]
  show _ ++ ([f x] : List (List β)).flatten = _
  simp
/-! ## sums_in -/
def spSums (K : PySem.W.Frag) (n : Nat) : Sp := Sp1 fun rem H Q => ∃ (F : Hp) (r : Rk), Same F H ∧ Da K F rem r.d ∧ r.Sz n ∧ n ≤ 5 ∧
  ∀ p ys H', H p = none → Same H H' → H' p = some (.lst ys) → Das K F ys (r.sums.map Sm.d) → Q (.ref p) H'
theorem sz5 {n m : Nat} (h : n ≤ 5) (hm : m ≤ 10 ^ n) : m ≤ 100000 := Nat.le_trans hm (Nat.le_trans (Nat.pow_le_pow_right (by decide) h) (by decide))
theorem sz_line {m : Nat} (h : m ≤ 2000000) : m ≤ sizeLine := by
  rw [sizeLine_eq]
  omega
theorem sums_step {n : Nat} (F : FunAt K mg "sums_in" s_sums_in) (G : Glb K mg) (c_members : Cal P w K mg base "members" 1 ["remark"] (spMembers K)) (c_sums_in : Cal P w K mg base "sums_in" (n + 1) ["remark"] (spSums K n)) :
    Cal P w K mg base "sums_in" (n + 2) ["remark"] (spSums K (n + 1)) := by
  refine F.cal sc_sums_in Sp1.len (fun _ _ _ _ _ _ us hl => match us, hl with | [_], _ => rfl) fun f cdv A outer s H vs Q E hr h => ?_
  have nd := sc_sums_in.nd
  have hu := hu_of hr
  refine ⟨_, (pss_cons (ps_if (PW.pt (pw_or (pt_cmpR op_eq (pe_ix ix_tup (pv 0) pe_int (fun _ _ => rfl)) pe_str (nomark _)) (pw_or1 (pt_cmpR op_eq (pe_ix ix_tup (pv 0) pe_int (fun _ _ => rfl)) pe_str (nomark _))))) (pss_one (ps_ret (pe_lst (pa_cons (pe_ix ix_tup (pv 0) pe_int (fun _ _ => rfl)) pa_nil)))) pss_nil)
    (pss_cons (ps_set (i := 1) nd rfl (Or.inl rfl) (pe_lst pa_nil))
    (pss_cons (ps_for PassesOwn.never rfl (pi_list (pe_cal c_members hr rfl (pa_cons (pv 0) pa_nil))) (pg_name (i := 2) nd rfl (Or.inl rfl))
      (pss_one (ps_set (i := 1) nd rfl (Or.inl rfl) (pe_op op_cat (pv 1) (pe_cal c_sums_in hr rfl (pa_cons (pv 2) pa_nil))))))
    (pss_one (ps_ret (pv 1)))))), ?_⟩
  obtain ⟨rem, rfl, F0, r, hF, h1, hsz, hn, q⟩ := h
  by_cases hm : ∃ s, r = .most s
  · obtain ⟨s, rfl⟩ := hm
    obtain ⟨a, x, rfl, h2, h3⟩ := Rk.at_most h1
    have h2 := hF.tup h2
    refine ⟨_, rfl, a, _, 0, _, rfl, rfl, h2, at0, rfl, _, rfl, ite_eq ?_⟩
    refine ⟨_, rfl, a, _, 1, _, rfl, rfl, h2, at1, (by show 1 ≤ sizeLine; decide), fun p hp => q p [x] _ hp (Same.new hp) upd_same (.cons h3 .nil)⟩
  by_cases hr' : ∃ s m, r = .rest s m
  · obtain ⟨s, m, rfl⟩ := hr'
    obtain ⟨a, x, rfl, h2, h3⟩ := Rk.at_rest h1
    have h2 := hF.tup h2
    refine ⟨_, rfl, a, _, 0, _, rfl, rfl, h2, at0, rfl, _, rfl, ite_ne (by decide +kernel) ?_⟩
    refine ⟨_, rfl, a, _, 0, _, rfl, rfl, h2, at0, rfl, _, rfl, ite_eq ?_⟩
    refine ⟨_, rfl, a, _, 1, _, rfl, rfl, h2, at1, (by show 1 ≤ sizeLine; decide), fun p hp => q p [x] _ hp (Same.new hp) upd_same (.cons h3 .nil)⟩
  have e0 := Rk.sums_subs (r := r) (fun s e => hm ⟨s, e⟩) (fun s m e => hr' ⟨s, m, e⟩)
  have w1 : ¬ r.word = "most" := by
    cases r with
    | most s => exact absurd ⟨s, rfl⟩ hm
    | rest s m => exact absurd ⟨s, m, rfl⟩ hr'
    | «at» h p => exact (by decide +kernel : ¬ ("at" : Str) = "most")
    | not r => exact (by decide +kernel : ¬ ("not" : Str) = "most")
    | and r => exact (by decide +kernel : ¬ ("and" : Str) = "most")
    | or r => exact (by decide +kernel : ¬ ("or" : Str) = "most")
  have w2 : ¬ r.word = "rest" := by
    cases r with
    | most s => exact absurd ⟨s, rfl⟩ hm
    | rest s m => exact absurd ⟨s, m, rfl⟩ hr'
    | «at» h p => exact (by decide +kernel : ¬ ("at" : Str) = "rest")
    | not r => exact (by decide +kernel : ¬ ("not" : Str) = "rest")
    | and r => exact (by decide +kernel : ¬ ("and" : Str) = "rest")
    | or r => exact (by decide +kernel : ¬ ("or" : Str) = "rest")
  obtain ⟨a, us, ea, h2⟩ := Rk.at_word h1
  rw [ea] at h1 ⊢
  have h2 := hF.tup h2
  obtain ⟨hs1, hs2⟩ := Rk.subs_sz hsz
  refine ⟨_, rfl, a, _, 0, _, rfl, rfl, h2, at0, rfl, _, rfl, ite_ne w1 ?_⟩
  refine ⟨_, rfl, a, _, 0, _, rfl, rfl, h2, at0, rfl, _, rfl, ite_ne w2 ?_⟩
  refine ⟨Nat.zero_le _, fun l hl => ?_⟩
  refine ⟨_, rfl, _, rfl, F0, r, hF.trans (Same.new hl), h1, fun m zs H1 hm0 e1 hm1 hz => ?_⟩
  have nml : l ≠ m := fun e => by
    rw [← e, upd_same] at hm0
    cases hm0
  have hm2 : H m = none := by
    rw [upd_ne nml.symm] at hm0
    exact hm0
  have hlF : F0 l = none := hF.free hl
  refine ⟨m, rfl, ⟨_, SqL.of hm1⟩, for_list (K := K) (a := m) (xs := zs) (fun i σ H' => ∃ f one acc, σ = [some (.ref a), some (.ref f), one] ∧ Same H H' ∧ H' m = some (.lst zs) ∧ H' f = some (.lst acc) ∧ Das K F0 acc (((r.subs.take i).map Rk.sums).flatten.map Sm.d) ∧ H f = none)
    ⟨l, none, [], rfl, (Same.new hl).trans e1, hm1, e1 _ _ upd_same, .nil, hl⟩ (fun i σ H' _ ⟨_, _, _, _, _, h, _⟩ => SqL.of h) ?_ ?_⟩
  · rintro i v σ H' hi ⟨f, one, acc, rfl, e2, hm3, hf, hacc, hfn⟩
    obtain ⟨x, hx, hv⟩ := hz.getM hi
    refine ⟨_, rfl, _, rfl, _, rfl, F0, x, hF.trans e2, hv, hs2 x (List.mem_of_getElem? hx), by omega, fun p ys H2 hp e3 hp2 hys => ?_⟩
    have hi' : i ≤ 10 := by
      have := (List.getElem?_eq_some_iff.mp hx).1
      omega
    have l1 : acc.length ≤ 1000000 := by
      rw [hacc.lenM]
      have k1 := len_flat Rk.sums 100000 (r.subs.take i) fun y hy => sz5 (by omega) (Rk.sums_len n y (hs2 y (List.mem_of_mem_take hy)))
      have k2 : (r.subs.take i).length ≤ 10 := Nat.le_trans (List.length_take_le _ _) hi'
      have k3 : (r.subs.take i).length * 100000 ≤ 10 * 100000 := Nat.mul_le_mul_right _ k2
      omega
    have l2 : ys.length ≤ 100000 := by
      rw [hys.lenM]
      exact sz5 (by omega) (Rk.sums_len n x (hs2 x (List.mem_of_getElem? hx)))
    refine ⟨f, p, acc, ys, rfl, rfl, e3 _ _ hf, hp2, sz_line (by omega), fun t ht => ?_⟩
    refine ⟨t, some v, acc ++ ys, rfl, (e2.trans e3).trans (Same.new ht), Same.new ht _ _ (e3 _ _ hm3), upd_same, ?_, e2.free (e3.free ht)⟩
    rw [flat_take _ hx, List.map_append]
    exact hacc.app hys
  · rintro σ H' ⟨f, one, acc, rfl, e2, hm3, hf, hacc, hfn⟩
    rw [hz.lenM, List.take_length, ← e0] at hacc
    exact ⟨_, rfl, q f acc H' hfn e2 hf hacc⟩
theorem ok_sums_in (F : FunAt K mg "sums_in" s_sums_in) (G : Glb K mg) (c_members : Cal P w K mg base "members" 1 ["remark"] (spMembers K)) : ∀ n, Cal P w K mg base "sums_in" (n + 1) ["remark"] (spSums K n)
  | 0 => F.none (fun _ _ _ _ _ _ us hl => match us, hl with | [_], _ => rfl) fun vs H Q E ⟨_, _, _, _, _, _, z, _⟩ => z
  | n + 1 => sums_step F G c_members (ok_sums_in F G c_members n)
/-! ## ats_in -/
def spAts (K : PySem.W.Frag) (n : Nat) : Sp := Sp1 fun rem H Q => ∃ (F : Hp) (r : Rk), Same F H ∧ Da K F rem r.d ∧ r.Sz n ∧ n ≤ 5 ∧
  ∀ p ys H', H p = none → Same H H' → H' p = some (.lst ys) → Das K F ys (r.ats.map atd) → Q (.ref p) H'
theorem ats_step {n : Nat} (F : FunAt K mg "ats_in" s_ats_in) (G : Glb K mg) (c_members : Cal P w K mg base "members" 1 ["remark"] (spMembers K)) (c_ats_in : Cal P w K mg base "ats_in" (n + 1) ["remark"] (spAts K n)) :
    Cal P w K mg base "ats_in" (n + 2) ["remark"] (spAts K (n + 1)) := by
  refine F.cal sc_ats_in Sp1.len (fun _ _ _ _ _ _ us hl => match us, hl with | [_], _ => rfl) fun f cdv A outer s H vs Q E hr h => ?_
  have nd := sc_ats_in.nd
  have hu := hu_of hr
  refine ⟨_, (pss_cons (ps_if (pt_cmpR op_eq (pe_ix ix_tup (pv 0) pe_int (fun _ _ => rfl)) pe_str (nomark _)) (pss_one (ps_ret (pe_lst (pa_cons (pv 0) pa_nil)))) pss_nil)
    (pss_cons (ps_set (i := 1) nd rfl (Or.inl rfl) (pe_lst pa_nil))
    (pss_cons (ps_for PassesOwn.never rfl (pi_list (pe_cal c_members hr rfl (pa_cons (pv 0) pa_nil))) (pg_name (i := 2) nd rfl (Or.inl rfl))
      (pss_one (ps_set (i := 1) nd rfl (Or.inl rfl) (pe_op op_cat (pv 1) (pe_cal c_ats_in hr rfl (pa_cons (pv 2) pa_nil))))))
    (pss_one (ps_ret (pv 1)))))), ?_⟩
  obtain ⟨rem, rfl, F0, r, hF, h1, hsz, hn, q⟩ := h
  by_cases hm : ∃ s p, r = .at s p
  · obtain ⟨s, p, rfl⟩ := hm
    obtain ⟨a, x, ea, h2, h3⟩ := Rk.at_at h1
    rw [ea] at h1 ⊢
    have h2 := hF.tup h2
    refine ⟨_, rfl, a, _, 0, _, rfl, rfl, h2, at0, rfl, _, rfl, ite_eq ?_⟩
    refine ⟨_, rfl, (by show 1 ≤ sizeLine; decide), fun p hp => q p [.ref a] _ hp (Same.new hp) upd_same (.cons h1 .nil)⟩
  have e0 := Rk.ats_subs (r := r) (fun s p e => hm ⟨s, p, e⟩)
  have w1 : ¬ r.word = "at" := by
    cases r with
    | most s => exact (by decide +kernel : ¬ ("most" : Str) = "at")
    | rest s m => exact (by decide +kernel : ¬ ("rest" : Str) = "at")
    | «at» h p => exact absurd ⟨h, p, rfl⟩ hm
    | not r => exact (by decide +kernel : ¬ ("not" : Str) = "at")
    | and r => exact (by decide +kernel : ¬ ("and" : Str) = "at")
    | or r => exact (by decide +kernel : ¬ ("or" : Str) = "at")
  obtain ⟨a, us, ea, h2⟩ := Rk.at_word h1
  rw [ea] at h1 ⊢
  have h2 := hF.tup h2
  obtain ⟨hs1, hs2⟩ := Rk.subs_sz hsz
  refine ⟨_, rfl, a, _, 0, _, rfl, rfl, h2, at0, rfl, _, rfl, ite_ne w1 ?_⟩
  refine ⟨Nat.zero_le _, fun l hl => ?_⟩
  refine ⟨_, rfl, _, rfl, F0, r, hF.trans (Same.new hl), h1, fun m zs H1 hm0 e1 hm1 hz => ?_⟩
  have nml : l ≠ m := fun e => by
    rw [← e, upd_same] at hm0
    cases hm0
  have hm2 : H m = none := by
    rw [upd_ne nml.symm] at hm0
    exact hm0
  have hlF : F0 l = none := hF.free hl
  refine ⟨m, rfl, ⟨_, SqL.of hm1⟩, for_list (K := K) (a := m) (xs := zs) (fun i σ H' => ∃ f one acc, σ = [some (.ref a), some (.ref f), one] ∧ Same H H' ∧ H' m = some (.lst zs) ∧ H' f = some (.lst acc) ∧ Das K F0 acc (((r.subs.take i).map Rk.ats).flatten.map atd) ∧ H f = none)
    ⟨l, none, [], rfl, (Same.new hl).trans e1, hm1, e1 _ _ upd_same, .nil, hl⟩ (fun i σ H' _ ⟨_, _, _, _, _, h, _⟩ => SqL.of h) ?_ ?_⟩
  · rintro i v σ H' hi ⟨f, one, acc, rfl, e2, hm3, hf, hacc, hfn⟩
    obtain ⟨x, hx, hv⟩ := hz.getM hi
    refine ⟨_, rfl, _, rfl, _, rfl, F0, x, hF.trans e2, hv, hs2 x (List.mem_of_getElem? hx), by omega, fun p ys H2 hp e3 hp2 hys => ?_⟩
    have hi' : i ≤ 10 := by
      have := (List.getElem?_eq_some_iff.mp hx).1
      omega
    have l1 : acc.length ≤ 1000000 := by
      rw [hacc.lenM]
      have k1 := len_flat Rk.ats 100000 (r.subs.take i) fun y hy => sz5 (by omega) (Rk.ats_len n y (hs2 y (List.mem_of_mem_take hy)))
      have k2 : (r.subs.take i).length ≤ 10 := Nat.le_trans (List.length_take_le _ _) hi'
      have k3 : (r.subs.take i).length * 100000 ≤ 10 * 100000 := Nat.mul_le_mul_right _ k2
      omega
    have l2 : ys.length ≤ 100000 := by
      rw [hys.lenM]
      exact sz5 (by omega) (Rk.ats_len n x (hs2 x (List.mem_of_getElem? hx)))
    refine ⟨f, p, acc, ys, rfl, rfl, e3 _ _ hf, hp2, sz_line (by omega), fun t ht => ?_⟩
    refine ⟨t, some v, acc ++ ys, rfl, (e2.trans e3).trans (Same.new ht), Same.new ht _ _ (e3 _ _ hm3), upd_same, ?_, e2.free (e3.free ht)⟩
    rw [flat_take _ hx, List.map_append]
    exact hacc.app hys
  · rintro σ H' ⟨f, one, acc, rfl, e2, hm3, hf, hacc, hfn⟩
    rw [hz.lenM, List.take_length, ← e0] at hacc
    exact ⟨_, rfl, q f acc H' hfn e2 hf hacc⟩
theorem ok_ats_in (F : FunAt K mg "ats_in" s_ats_in) (G : Glb K mg) (c_members : Cal P w K mg base "members" 1 ["remark"] (spMembers K)) : ∀ n, Cal P w K mg base "ats_in" (n + 1) ["remark"] (spAts K n)
  | 0 => F.none (fun _ _ _ _ _ _ us hl => match us, hl with | [_], _ => rfl) fun vs H Q E ⟨_, _, _, _, _, _, z, _⟩ => z
  | n + 1 => ats_step F G c_members (ok_ats_in F G c_members n)
end
end Ca
namespace Ca
open PySem L2
abbrev s_rows_count : Stmt := top 19
abbrev N_rows_count : List Str := ["rows", "unlike", "some", "places", "steps", "row", "inner"]
theorem sc_rows_count : FnScope N_rows_count ["rows", "unlike"] (defScope s_rows_count) := ⟨rfl, rfl, rfl, by decide +kernel, rfl, by decide +kernel, by decide +kernel⟩
-- cells: []  slots: 0=rows 1=unlike 2=some 3=places 4=steps 5=row 6=inner
abbrev s_row_count : Stmt := top 18
abbrev N_row_count : List Str := ["row", "inner", "ways", "places", "steps", "rows"]
theorem sc_row_count : FnScope N_row_count ["row"] (defScope s_row_count) := ⟨rfl, rfl, rfl, by decide +kernel, rfl, by decide +kernel, by decide +kernel⟩
-- cells: []  slots: 0=row 1=inner 2=ways 3=places 4=steps 5=rows
abbrev s_rounds_count : Stmt := top 20
abbrev N_rounds_count : List Str := ["row", "many", "once"]
theorem sc_rounds_count : FnScope N_rounds_count ["row"] (defScope s_rounds_count) := ⟨rfl, rfl, rfl, by decide +kernel, rfl, by decide +kernel, by decide +kernel⟩
-- cells: []  slots: 0=row 1=many 2=once
section
variable {P : Program} {w : World} {K : PySem.W.Frag} {mg : Str → Option Value} {base : Heap}
theorem sum_take {α : Type} (f : α → Int) {l : List α} {i : Nat} {x : α} (h : l[i]? = some x) : ((l.take (i + 1)).map f).sum = ((l.take i).map f).sum + f x := by
  rw [List.take_succ, h, List.map_append, List.sum_append]
  show _ + ([f x] : List Int).sum = _
  simp
/-! ## rows_count, row_count, rounds_count -/
def pr (c : Int × Int) : HO := .tup [.int c.1, .int c.2]
def spRow (K : PySem.W.Frag) (n : Nat) : Sp := Sp1 fun row H Q => ∃ (r : Row) (E : En), Da K H row r.d ∧ r.mark = false ∧ r.Ok E n ∧ n ≤ 10 ∧ ∀ p H', H p = none → Same H H' → H' p = some (pr r.cnt) → Q (.ref p) H'
def spRows (K : PySem.W.Frag) (n : Nat) : Sp := Sp2 fun rows unlike H Q => ∃ (rs : List Row) (E : En), Da K H rows (rd rs) ∧ unlike = .bl true ∧ RowsOk E n rs ∧ n ≤ 10 ∧ ∀ p H', H p = none → Same H H' → H' p = some (pr (cntR rs)) → Q (.ref p) H'
def spRounds (K : PySem.W.Frag) (n : Nat) : Sp := Sp1 fun row H Q => ∃ (k : Int) (a : List Row) (E : En), Da K H row (Row.rounds k a).d ∧ 0 ≤ k ∧ k ≤ 3 ∧ RowsOk E n a ∧ n ≤ 10 ∧ ∀ p H', H p = none → Same H H' → H' p = some (pr (Row.rounds k a).cnt) → Q (.ref p) H'
theorem ok_rows_count {n k : Nat} (F : FunAt K mg "rows_count" s_rows_count) (G : Glb K mg) (c_statements : Cal P w K mg base "statements" 1 ["rows"] (spStm K)) (c_row_count : Cal P w K mg base "row_count" (k + 1) ["row"] (spRow K n)) :
    Cal P w K mg base "rows_count" (k + 2) ["rows", "unlike"] (spRows K n) := by
  refine F.cal sc_rows_count Sp2.len (fun _ _ _ _ _ _ us hl => match us, hl with | [_, _], _ => rfl) fun f cdv A outer s H vs Q E hr h => ?_
  have nd := sc_rows_count.nd
  have hu := hu_of hr
  have m_int := G.int
  have m_len := G.len
  refine ⟨_, (pss_cons (ps_set (i := 2) nd rfl (Or.inl rfl) (pe_cal c_statements hr rfl (pa_cons (pv 0) pa_nil)))
    (pss_cons (ps_if (pt_cmpR (op_eqD hr.units) (pv 2) (pe_lst pa_nil) (nomark _)) (pss_one (ps_ret (pe_tup (pa_cons pe_int (pa_cons (pe_callTy call_int1 (by rfl) m_int (by decide +kernel) (pa_cons (pv 1) pa_nil)) pa_nil))))) pss_nil)
    (pss_cons (ps_set (i := 3) nd rfl (Or.inl rfl) (pe_op op_sub (pe_callB call_len_seq (by rfl) m_len (by decide +kernel) (pa_cons (pv 2) pa_nil)) pe_int))
    (pss_cons (ps_set (i := 4) nd rfl (Or.inl rfl) pe_int)
    (pss_cons (ps_for PassesOwn.never rfl (pi_list (pv 2)) (pg_name (i := 5) nd rfl (Or.inl rfl))
      (pss_cons (ps_set (i := 6) nd rfl (Or.inl rfl) (pe_cal c_row_count hr rfl (pa_cons (pv 5) pa_nil)))
      (pss_cons (ps_set (i := 3) nd rfl (Or.inl rfl) (pe_op op_add (pv 3) (pe_ix ix_tup (pv 6) pe_int (fun _ _ => rfl))))
      (pss_one (ps_set (i := 4) nd rfl (Or.inl rfl) (pe_op op_add (pv 4) (pe_ix ix_tup (pv 6) pe_int (fun _ _ => rfl))))))))
    (pss_one (ps_ret (pe_tup (pa_cons (pv 3) (pa_cons (pv 4) pa_nil)))))))))), ?_⟩
  obtain ⟨rows, unl, rfl, rs, E, h1, rfl, ok, hn, q⟩ := h
  have hlen : rs.length < 1000000 := by have := ok.1; omega
  have hst : (stm rs).length ≤ rs.length := List.length_filter_le _ _
  refine ⟨_, rfl, _, rfl, H, rs, Same.refl _, h1, hlen, fun p H1 ys hp e1 hp1 hys => ?_⟩
  have hl : ys.length = (stm rs).length := hys.lenM
  refine ⟨_, rfl, Nat.zero_le _, fun l hl0 => ⟨.list ((stm rs).map Row.d), .list [], .lst (SqL.of (Same.new hl0 _ _ hp1)) (hys.mono (e1.trans (Same.new hl0))).dp, .lst (SqL.of upd_same) .nil,
    (lay_lst (lay_m fun x hx => Row.lay n x (ok.2 x hx))).shaped (by omega), rfl, ((stm rs).map Row.d).isEmpty, congrArg V.bl (eqv_nil _), ?_⟩⟩
  have e2 : Same H (upd H1 l (.lst [])) := e1.trans (Same.new hl0)
  have hp2 : upd H1 l (.lst []) p = some (.lst ys) := Same.new hl0 _ _ hp1
  refine ite2 (fun c => ?_) (fun c => ?_)
  · have e0 : stm rs = [] := by simpa using c
    refine ⟨_, rfl, .inr ⟨true, rfl, (by show 2 ≤ sizeLine; decide), fun t ht => ?_⟩⟩
    refine q t _ (e2.free ht) (e2.trans (Same.new ht)) ?_
    rw [upd_same]
    unfold pr cntR cntX
    rw [if_pos e0]
    rfl
  · have e0 : ¬ stm rs = [] := by simpa using c
    refine ⟨_, rfl, p, _, rfl, .inl (SqL.of hp2), _, _, rfl, rfl, ?_⟩
    refine ⟨_, rfl, p, rfl, ⟨_, SqL.of hp2⟩, for_list (K := K) (a := p) (xs := ys) (fun i σ H' => ∃ row inner, σ = [some rows, some (.bl true), some (.ref p), some (.int ((((stm rs).length : Int) - 1) + (((stm rs).take i).map fun r => r.cnt.1).sum)), some (.int ((((stm rs).take i).map fun r => r.cnt.2).sum)), row, inner] ∧ Same H H' ∧ H' p = some (.lst ys))
      ⟨none, none, by rw [hl]; simp; rfl, e2, hp2⟩ (fun i σ H' _ ⟨_, _, _, _, h⟩ => SqL.of h) ?_ ?_⟩
    · rintro i v σ H' hi ⟨row, inner, rfl, e3, hp3⟩
      obtain ⟨x, hx, hv⟩ := hys.getM hi
      have hxm := List.mem_of_getElem? hx
      refine ⟨_, rfl, _, rfl, x, E, hv.mono e3, (mem_stm hxm).2, ok.2 x hxm, hn, fun t H2 ht e4 ht2 => ?_⟩
      refine ⟨_, rfl, _, rfl, t, _, 0, _, rfl, rfl, SqT.of ht2, rfl, _, _, rfl, rfl, ?_⟩
      refine ⟨_, rfl, _, rfl, t, _, 1, _, rfl, rfl, SqT.of ht2, rfl, _, _, rfl, rfl, ?_⟩
      refine ⟨some v, some (.ref t), ?_, e3.trans e4, e4 _ _ hp3⟩
      rw [sum_take (fun r => r.cnt.1) hx, sum_take (fun r => r.cnt.2) hx, ← Int.add_assoc]
      rfl
    · rintro σ H' ⟨row, inner, rfl, e3, hp3⟩
      rw [hl, List.take_length]
      refine ⟨_, rfl, _, rfl, (by show 2 ≤ sizeLine; decide), fun t ht => ?_⟩
      refine q t _ (e3.free ht) (e3.trans (Same.new ht)) ?_
      rw [upd_same]
      unfold pr cntR cntX
      rw [if_neg e0, cntS_eq]
theorem ok_rounds_count {n k : Nat} (F : FunAt K mg "rounds_count" s_rounds_count) (G : Glb K mg) (c_statements : Cal P w K mg base "statements" 1 ["rows"] (spStm K)) (c_rows_count : Cal P w K mg base "rows_count" (k + 1) ["rows", "unlike"] (spRows K n)) :
    Cal P w K mg base "rounds_count" (k + 2) ["row"] (spRounds K n) := by
  refine F.cal sc_rounds_count Sp1.len (fun _ _ _ _ _ _ us hl => match us, hl with | [_], _ => rfl) fun f cdv A outer s H vs Q E hr h => ?_
  have nd := sc_rounds_count.nd
  have hu := hu_of hr
  have m_len := G.len
  refine ⟨_, (pss_cons (ps_set (i := 1) nd rfl (Or.inl rfl) (pe_op op_mul (pe_callB call_len_seq (by rfl) m_len (by decide +kernel) (pa_cons (pe_cal c_statements hr rfl (pa_cons (pe_ix ix_tup (pv 0) pe_int (fun _ _ => rfl)) pa_nil)) pa_nil)) (pe_ix ix_tup (pv 0) pe_int (fun _ _ => rfl))))
    (pss_cons (ps_if (pt_cmpR op_eq (pv 1) pe_int (nomark _)) (pss_one (ps_ret (pe_tup (pa_cons pe_int (pa_cons pe_int pa_nil))))) pss_nil)
    (pss_cons (ps_set (i := 2) nd rfl (Or.inl rfl) (pe_cal c_rows_count hr rfl (pa_cons (pe_ix ix_tup (pv 0) pe_int (fun _ _ => rfl)) (pa_cons pe_bl pa_nil))))
    (pss_one (ps_ret (pe_tup (pa_cons (pe_op op_sub (pe_op op_add (pe_op op_mul (pe_ix ix_tup (pv 2) pe_int (fun _ _ => rfl)) (pe_ix ix_tup (pv 0) pe_int (fun _ _ => rfl))) (pe_ix ix_tup (pv 0) pe_int (fun _ _ => rfl))) pe_int) (pa_cons (pe_op op_mul (pe_ix ix_tup (pv 2) pe_int (fun _ _ => rfl)) (pe_ix ix_tup (pv 0) pe_int (fun _ _ => rfl))) pa_nil)))))))), ?_⟩
  obtain ⟨row, rfl, m, a, E, h1, hm0, hm3, ok, hn, q⟩ := h
  obtain ⟨t, x, y, z, rfl, h2, hx, hy, hz⟩ := h1.tup3
  cases hx.str_inv
  cases hy.int_inv
  rw [Row.ds_eq] at hz
  have hlen : a.length < 1000000 := by have := ok.1; omega
  have hst : (stm a).length ≤ a.length := List.length_filter_le _ _
  refine ⟨_, rfl, t, _, 2, _, rfl, rfl, h2, rfl, _, rfl, H, a, Same.refl _, hz, hlen, fun p H1 ys hp e1 hp1 hys => ?_⟩
  have hl : ys.length = (stm a).length := hys.lenM
  refine ⟨p, _, rfl, .inl (SqL.of hp1), _, rfl, t, _, 1, _, rfl, rfl, e1.tup h2, rfl, _, _, rfl, rfl, .inl ⟨by have := hl; omega, by have := hl; omega⟩, ?_⟩
  refine ⟨_, rfl, rfl, _, rfl, ?_⟩
  have ez : decide (V.int ((ys.length : Int) * m) = V.int 0) = decide (((stm a).length : Int) * m = 0) := by
    rw [hl, Bool.eq_iff_iff]
    simp
  rw [ez]
  refine ite2 (fun c => ?_) (fun c => ?_)
  · have c := of_decide_eq_true c
    refine ⟨(by show 2 ≤ sizeLine; decide), fun u hu => ?_⟩
    refine q u _ (e1.free hu) (e1.trans (Same.new hu)) ?_
    rw [upd_same]
    unfold pr Row.cnt
    rw [if_pos c]
  · have c : ¬ ((stm a).length : Int) * m = 0 := fun e => c (decide_eq_true e)
    refine ⟨_, rfl, t, _, 2, _, rfl, rfl, e1.tup h2, rfl, _, _, rfl, a, E, hz.mono e1, rfl, ok, hn, fun u H2 hu e2 hu2 => ?_⟩
    have e3 := e1.trans e2
    have big : ∀ j : Int, (-(2 ^ 64) < m ∧ m < 2 ^ 64) := fun _ => ⟨by omega, by omega⟩
    refine ⟨_, rfl, u, _, 0, _, rfl, rfl, SqT.of hu2, rfl, _, rfl, t, _, 1, _, rfl, rfl, e3.tup h2, rfl, _, _, rfl, rfl, .inr (big 0), ?_⟩
    refine ⟨_, rfl, t, _, 1, _, rfl, rfl, e3.tup h2, rfl, _, _, rfl, rfl, _, _, rfl, rfl, ?_⟩
    refine ⟨_, rfl, u, _, 1, _, rfl, rfl, SqT.of hu2, rfl, _, rfl, t, _, 1, _, rfl, rfl, e3.tup h2, rfl, _, _, rfl, rfl, .inr (big 0), ?_⟩
    refine ⟨(by show 2 ≤ sizeLine; decide), fun v hv => ?_⟩
    refine q v _ (e3.free hv) (e3.trans (Same.new hv)) ?_
    rw [upd_same]
    unfold pr Row.cnt
    rw [if_neg c]
    rfl
end
end Ca
namespace Ca
open PySem L2
section
variable {P : Program} {w : World} {K : PySem.W.Frag} {mg : Str → Option Value} {base : Heap}
theorem plain_in : ∀ r : Row, inV (.str r.word) [.str "set", .str "wait", .str "take", .str "give"] = r.plain
  | .set _ => (by decide +kernel : inV (.str "set") [.str "set", .str "wait", .str "take", .str "give"] = true)
  | .wait _ => (by decide +kernel : inV (.str "wait") [.str "set", .str "wait", .str "take", .str "give"] = true)
  | .iff _ _ _ => (by decide +kernel : inV (.str "if") [.str "set", .str "wait", .str "take", .str "give"] = false)
  | .whl _ _ => (by decide +kernel : inV (.str "while") [.str "set", .str "wait", .str "take", .str "give"] = false)
  | .rounds _ _ => (by decide +kernel : inV (.str "rounds") [.str "set", .str "wait", .str "take", .str "give"] = false)
  | .either _ => (by decide +kernel : inV (.str "either") [.str "set", .str "wait", .str "take", .str "give"] = false)
  | .take _ => (by decide +kernel : inV (.str "take") [.str "set", .str "wait", .str "take", .str "give"] = true)
  | .give _ => (by decide +kernel : inV (.str "give") [.str "set", .str "wait", .str "take", .str "give"] = true)
  | .label _ => (by decide +kernel : inV (.str "label") [.str "set", .str "wait", .str "take", .str "give"] = false)
  | .say _ => (by decide +kernel : inV (.str "say") [.str "set", .str "wait", .str "take", .str "give"] = false)
  | .skip => (by decide +kernel : inV (.str "skip") [.str "set", .str "wait", .str "take", .str "give"] = false)
theorem Row.at_iff {F : Hp} {v : V} {r : Rk} {a b : List Row} (h : Da K F v (Row.iff r a b).d) : ∃ t x y z, v = .ref t ∧ SqT K F t [.str "if", x, y, z] ∧ Da K F x r.d ∧ Da K F y (rd a) ∧ Da K F z (rd b) := by
  obtain ⟨t, x, y, z, u, rfl, h1, h2, h3, h4, h5⟩ := h.tup4
  cases h2.str_inv
  rw [Row.ds_eq] at h4 h5
  exact ⟨t, y, z, u, rfl, h1, h3, h4, h5⟩
theorem Row.at_whl {F : Hp} {v : V} {r : Rk} {a : List Row} (h : Da K F v (Row.whl r a).d) : ∃ t x y, v = .ref t ∧ SqT K F t [.str "while", x, y] ∧ Da K F x r.d ∧ Da K F y (rd a) := by
  obtain ⟨t, x, y, z, rfl, h1, h2, h3, h4⟩ := h.tup3
  cases h2.str_inv
  rw [Row.ds_eq] at h4
  exact ⟨t, y, z, rfl, h1, h3, h4⟩
theorem Row.at_rounds {F : Hp} {v : V} {k : Int} {a : List Row} (h : Da K F v (Row.rounds k a).d) : ∃ t y, v = .ref t ∧ SqT K F t [.str "rounds", .int k, y] ∧ Da K F y (rd a) := by
  obtain ⟨t, x, y, z, rfl, h1, h2, h3, h4⟩ := h.tup3
  cases h2.str_inv
  cases h3.int_inv
  rw [Row.ds_eq] at h4
  exact ⟨t, z, rfl, h1, h4⟩
theorem Row.at_either {F : Hp} {v : V} {ws : List (List Row)} (h : Da K F v (Row.either ws).d) : ∃ t u xs, v = .ref t ∧ SqT K F t [.str "either", .ref u] ∧ SqT K F u xs ∧ Das K F xs (ws.map rd) := by
  obtain ⟨t, x, y, rfl, h1, h2, h3⟩ := h.tup2
  cases h2.str_inv
  obtain ⟨u, xs, rfl, h4, h5⟩ := h3.tup_inv
  rw [Row.dss_eq] at h5
  exact ⟨t, u, xs, rfl, h1, h4, h5⟩
theorem ite_b {b : Bool} {A B : Prop} (h : b = true) (k : A) : if b = true then A else B := by
  rw [if_pos h]
  exact k
theorem ite_nb {b : Bool} {A B : Prop} (h : b = false) (k : B) : if b = true then A else B := by
  rw [h]
  exact iteF k
theorem row_step {n k : Nat} (F : FunAt K mg "row_count" s_row_count) (G : Glb K mg) (c_rows_count : Cal P w K mg base "rows_count" (k + 1) ["rows", "unlike"] (spRows K n)) (c_rounds_count : Cal P w K mg base "rounds_count" (k + 2) ["row"] (spRounds K n)) :
    Cal P w K mg base "row_count" (k + 3) ["row"] (spRow K (n + 1)) := by
  refine F.cal sc_row_count Sp1.len (fun _ _ _ _ _ _ us hl => match us, hl with | [_], _ => rfl) fun f cdv A outer s H vs Q E hr h => ?_
  have nd := sc_row_count.nd
  have hu := hu_of hr
  obtain ⟨a_PLAIN, m_PLAIN, h_PLAIN⟩ := G.PLAIN
  have m_len := G.len
  have m_list := G.list
  refine ⟨_, (pss_cons (ps_if (pt_cmpR op_in_seq (pe_ix ix_tup (pv 0) pe_int (fun _ _ => rfl)) (pe_glob (v := .ref a_PLAIN) rfl m_PLAIN rfl) (by rfl)) (pss_one (ps_ret (pe_tup (pa_cons pe_int (pa_cons pe_int pa_nil))))) pss_nil)
    (pss_cons (ps_if (pt_cmpR op_eq (pe_ix ix_tup (pv 0) pe_int (fun _ _ => rfl)) pe_str (nomark _)) (pss_cons (ps_set (i := 1) nd rfl (Or.inl rfl) (pe_cal c_rows_count hr rfl (pa_cons (pe_ix ix_tup (pv 0) pe_int (fun _ _ => rfl)) (pa_cons pe_bl pa_nil))))
      (pss_one (ps_ret (pe_tup (pa_cons (pe_op op_add pe_int (pe_ix ix_tup (pv 1) pe_int (fun _ _ => rfl))) (pa_cons (pe_op op_add pe_int (pe_ix ix_tup (pv 1) pe_int (fun _ _ => rfl))) pa_nil)))))) pss_nil)
    (pss_cons (ps_if (pt_cmpR op_eq (pe_ix ix_tup (pv 0) pe_int (fun _ _ => rfl)) pe_str (nomark _)) (pss_one (ps_ret (pe_cal c_rounds_count hr rfl (pa_cons (pv 0) pa_nil)))) pss_nil)
    (Evl.pss_cut (ps_if (pt_cmpR op_eq (pe_ix ix_tup (pv 0) pe_int (fun _ _ => rfl)) pe_str (nomark _)) (pss_cons (ps_set (i := 2) nd rfl (Or.inl rfl) (pe_lst (pa_cons (pe_ix ix_tup (pv 0) pe_int (fun _ _ => rfl)) pa_nil)))
      (pss_cons (ps_set (i := 3) nd rfl (Or.inl rfl) pe_int)
      (pss_cons (ps_set (i := 4) nd rfl (Or.inl rfl) pe_int)
      (pss_one (ps_if (pt_cmpR (op_neD hr.units) (pe_ix ix_tup (pv 0) pe_int (fun _ _ => rfl)) (pe_lst pa_nil) (nomark _)) (pss_cons (ps_expr (pe_bm PySem.F.plainAttrs_list PySem.F.slot_list_append PySem.F.type_list_append mt_append (pv 2) (pa_cons (pe_ix ix_tup (pv 0) pe_int (fun _ _ => rfl)) pa_nil)))
        (pss_one (ps_set (i := 3) nd rfl (Or.inl rfl) pe_int))) pss_nil))))) (pss_cons (ps_set (i := 2) nd rfl (Or.inl rfl) (pe_callTy call_list_of (by rfl) m_list (by decide +kernel) (pa_cons (pe_ix ix_tup (pv 0) pe_int (fun _ _ => rfl)) pa_nil)))
      (pss_cons (ps_set (i := 3) nd rfl (Or.inl rfl) (pe_callB call_len_seq (by rfl) m_len (by decide +kernel) (pa_cons (pv 2) pa_nil)))
      (pss_one (ps_set (i := 4) nd rfl (Or.inl rfl) (pe_callB call_len_seq (by rfl) m_len (by decide +kernel) (pa_cons (pv 2) pa_nil)))))))
    (pss_cons (ps_for PassesOwn.never rfl (pi_list (pv 2)) (pg_name (i := 5) nd rfl (Or.inl rfl))
      (pss_cons (ps_set (i := 1) nd rfl (Or.inl rfl) (pe_cal c_rows_count hr rfl (pa_cons (pv 5) (pa_cons pe_bl pa_nil))))
      (pss_cons (ps_set (i := 3) nd rfl (Or.inl rfl) (pe_op op_add (pv 3) (pe_ix ix_tup (pv 1) pe_int (fun _ _ => rfl))))
      (pss_one (ps_set (i := 4) nd rfl (Or.inl rfl) (pe_op op_add (pv 4) (pe_ix ix_tup (pv 1) pe_int (fun _ _ => rfl))))))))
    (pss_one (ps_ret (pe_tup (pa_cons (pv 3) (pa_cons (pv 4) pa_nil)))))))))), ?_⟩
  obtain ⟨row, rfl, r, E0, h1, hmk, ok, hn, q⟩ := h
  obtain ⟨t, us, ht, hw⟩ := Row.at_word h1
  subst ht
  by_cases hp : r.plain = true
  · refine ⟨_, rfl, t, _, 0, _, rfl, rfl, hw, at0, a_PLAIN, _, rfl, .inr (h_PLAIN _), rfl, by decide +kernel, _, rfl, ?_⟩
    refine ite_b ?_ ?_
    · show (if false = true then !inV (.str r.word) _ else inV (.str r.word) _) = true
      rw [if_neg (by decide), plain_in]
      exact hp
    · refine ⟨(by show 2 ≤ sizeLine; decide), fun u hu => ?_⟩
      refine q u _ hu (Same.new hu) ?_
      rw [upd_same]
      cases r <;> first | rfl | cases hp
  · have hpf : r.plain = false := by
      cases e : r.plain with
      | true => exact absurd e hp
      | false => rfl
    refine ⟨_, rfl, t, _, 0, _, rfl, rfl, hw, at0, a_PLAIN, _, rfl, .inr (h_PLAIN _), rfl, by decide +kernel, _, rfl, ?_⟩
    refine ite_nb ?_ ?_
    · show (if false = true then !inV (.str r.word) _ else inV (.str r.word) _) = false
      rw [if_neg (by decide), plain_in]
      exact hpf
    by_cases hw1 : ∃ r0 a, r = .whl r0 a
    · obtain ⟨r0, a, rfl⟩ := hw1
      obtain ⟨t', x, y, et, h2, h3, h4⟩ := Row.at_whl h1
      cases et
      refine ⟨_, rfl, t, _, 0, _, rfl, rfl, h2, at0, rfl, _, rfl, ite_eq ?_⟩
      refine ⟨_, rfl, t, _, 2, _, rfl, rfl, h2, rfl, _, _, rfl, a, E0, h4, rfl, rowsOk_of ok.2.1 ok.2.2, by omega, fun u H1 hu e1 hu1 => ?_⟩
      refine ⟨_, rfl, u, _, 0, _, rfl, rfl, SqT.of hu1, rfl, _, _, rfl, rfl, ?_⟩
      refine ⟨_, rfl, u, _, 1, _, rfl, rfl, SqT.of hu1, rfl, _, _, rfl, rfl, (by show 2 ≤ sizeLine; decide), fun v hv => ?_⟩
      refine q v _ (e1.free hv) (e1.trans (Same.new hv)) ?_
      rw [upd_same]
      rfl
    by_cases hw2 : ∃ m a, r = .rounds m a
    · obtain ⟨m, a, rfl⟩ := hw2
      obtain ⟨t', y, et, h2, h4⟩ := Row.at_rounds h1
      cases et
      refine ⟨_, rfl, t, _, 0, _, rfl, rfl, h2, at0, rfl, _, rfl, ite_ne (by decide +kernel) ?_⟩
      refine ⟨_, rfl, t, _, 0, _, rfl, rfl, h2, at0, rfl, _, rfl, ite_eq ?_⟩
      refine ⟨_, rfl, _, rfl, m, a, E0, h1, ok.1, ok.2.1, rowsOk_of ok.2.2.1 ok.2.2.2, by omega, fun u H1 hu e1 hu1 => q u H1 hu e1 hu1⟩
    have w1 : ¬ r.word = "while" := by
      cases r with
      | whl r0 a => exact absurd ⟨r0, a, rfl⟩ hw1
      | iff _ _ _ => exact (by decide +kernel : ¬ ("if" : Str) = "while")
      | either _ => exact (by decide +kernel : ¬ ("either" : Str) = "while")
      | rounds m a => exact absurd ⟨m, a, rfl⟩ hw2
      | label _ => cases hmk
      | say _ => cases hmk
      | skip => exact ok.elim
      | _ => cases hpf
    have w2 : ¬ r.word = "rounds" := by
      cases r with
      | whl r0 a => exact absurd ⟨r0, a, rfl⟩ hw1
      | iff _ _ _ => exact (by decide +kernel : ¬ ("if" : Str) = "rounds")
      | either _ => exact (by decide +kernel : ¬ ("either" : Str) = "rounds")
      | rounds m a => exact absurd ⟨m, a, rfl⟩ hw2
      | label _ => cases hmk
      | say _ => cases hmk
      | skip => exact ok.elim
      | _ => cases hpf
    refine ⟨_, rfl, t, _, 0, _, rfl, rfl, hw, at0, rfl, _, rfl, ite_ne w1 ?_⟩
    refine ⟨_, rfl, t, _, 0, _, rfl, rfl, hw, at0, rfl, _, rfl, ite_ne w2 ?_⟩
    refine ⟨fun σ' H' => ∃ (l : Addr) (wl : List (List Row)) (vs : List V) (p0 s0 : Int) (x y : Option V), σ' = [some (.ref t), x, some (.ref l), some (.int p0), some (.int s0), y] ∧ Same H H' ∧ H' l = some (.lst vs) ∧ Das K H' vs (wl.map rd) ∧ (∀ w ∈ wl, RowsOk E0 n w) ∧
      r.cnt = (p0 + (wl.map fun a => (cntR a).1).sum, s0 + (wl.map fun a => (cntR a).2).sum), ?_, ?_⟩
    · cases r with
      | iff r a b =>
        obtain ⟨t', x, y, z, et, h2, h3, h4, h5⟩ := Row.at_iff h1
        cases et
        refine ⟨_, rfl, t, _, 0, _, rfl, rfl, h2, at0, rfl, _, rfl, ite_eq ?_⟩
        refine ⟨_, rfl, t, _, 2, _, rfl, rfl, h2, rfl, (by show 1 ≤ sizeLine; decide), fun l hl => ?_⟩
        refine ⟨_, rfl, t, _, 3, _, rfl, rfl, (Same.new hl).tup h2, rfl, Nat.zero_le _, fun m hm => ?_⟩
        have e1 : Same H (upd (upd H l (.lst [y])) m (.lst [])) := (Same.new hl).trans (Same.new hm)
        refine ⟨rd b, .list [], (h5.mono e1).dp, .lst (SqL.of upd_same) .nil, (lay_rd ok.2.2.2.2).shaped (by omega), rfl, !(b.map Row.d).isEmpty, congrArg (fun k => V.bl (!k)) (eqv_nil _), ?_⟩
        have hl1 : upd (upd H l (.lst [y])) m (.lst []) l = some (.lst [y]) := Same.new hm _ _ upd_same
        have oka : RowsOk E0 n a := rowsOk_of ok.2.1 ok.2.2.1
        have okb : RowsOk E0 n b := rowsOk_of ok.2.2.2.1 ok.2.2.2.2
        refine ite2 (fun c => ?_) (fun c => ?_)
        · have e0 : ¬ b = [] := by
            intro e
            subst e
            cases c
          refine ⟨_, rfl, .inl ⟨rfl, _, SqL.of hl1⟩, _, rfl, t, _, 3, _, rfl, rfl, e1.tup h2, rfl, l, _, _, rfl, rfl, hl1, (by show 1 < sizeLine; decide), ?_⟩
          have e2 := e1.mut (o := .lst ([y] ++ [z])) hl
          refine ⟨l, [a, b], [y, z], 2, 2, none, none, rfl, e2, upd_same, .cons (h4.mono e2) (.cons (h5.mono e2) .nil), ?_, ?_⟩
          · intro w hw
            rcases List.mem_cons.mp hw with rfl | hw
            · exact oka
            · rcases List.mem_cons.mp hw with rfl | hw
              · exact okb
              · exact nomatch hw
          · unfold Row.cnt
            rw [if_neg e0]
            simp [cntR, Int.add_assoc]
        · have e0 : b = [] := by
            cases b with
            | nil => rfl
            | cons _ _ => exact absurd rfl c
          refine ⟨l, [a], [y], 1, 2, none, none, rfl, e1, hl1, .cons (h4.mono e1) .nil, ?_, ?_⟩
          · intro w hw
            rcases List.mem_cons.mp hw with rfl | hw
            · exact oka
            · exact nomatch hw
          · unfold Row.cnt
            rw [if_pos e0]
            simp [cntR]
      | either ws =>
        obtain ⟨t', u, xs, et, h2, h3, h4⟩ := Row.at_either h1
        cases et
        refine ⟨_, rfl, t, _, 0, _, rfl, rfl, h2, at0, rfl, _, rfl, ite_ne (by decide +kernel) ?_⟩
        refine ⟨_, rfl, t, _, 1, _, rfl, rfl, h2, at1, u, _, rfl, .inr h3, fun l hl => ?_⟩
        have e1 : Same H (upd H l (.lst xs)) := Same.new hl
        refine ⟨_, rfl, l, _, rfl, .inl (SqL.of upd_same), _, rfl, l, _, rfl, .inl (SqL.of upd_same), ?_⟩
        refine ⟨l, ws, xs, _, _, none, none, rfl, e1, upd_same, h4.mono e1, fun w hw => rowsOk_of (ok.2.2 w hw).1 (ok.2.2 w hw).2, ?_⟩
        rw [h4.lenM]
        unfold Row.cnt
        rw [cntW_eq]
      | whl r0 a => exact absurd ⟨r0, a, rfl⟩ hw1
      | rounds m a => exact absurd ⟨m, a, rfl⟩ hw2
      | label _ => cases hmk
      | say _ => cases hmk
      | skip => exact ok.elim
      | _ => cases hpf
    · rintro σ' H1 ⟨l, wl, vs, p0, s0, x, y, rfl, e1, hl, hvs, hok, hcnt⟩
      refine ⟨_, rfl, l, rfl, ⟨_, SqL.of hl⟩, for_list (K := K) (a := l) (xs := vs) (fun i σ H' => ∃ x y, σ = [some (.ref t), x, some (.ref l), some (.int (p0 + ((wl.take i).map fun a => (cntR a).1).sum)), some (.int (s0 + ((wl.take i).map fun a => (cntR a).2).sum)), y] ∧ Same H1 H')
        ⟨x, y, by simp, Same.refl _⟩ (fun i σ H' _ ⟨_, _, _, e⟩ => SqL.of (e _ _ hl)) ?_ ?_⟩
      · rintro i v σ H' hi ⟨x, y, rfl, e2⟩
        obtain ⟨a, ha, hv⟩ := hvs.getM hi
        refine ⟨_, rfl, _, _, rfl, a, E0, hv.mono e2, rfl, hok a (List.mem_of_getElem? ha), by omega, fun u H2 hu e3 hu2 => ?_⟩
        refine ⟨_, rfl, _, rfl, u, _, 0, _, rfl, rfl, SqT.of hu2, rfl, _, _, rfl, rfl, ?_⟩
        refine ⟨_, rfl, _, rfl, u, _, 1, _, rfl, rfl, SqT.of hu2, rfl, _, _, rfl, rfl, ?_⟩
        refine ⟨some (.ref u), some v, ?_, e2.trans e3⟩
        rw [sum_take (fun a => (cntR a).1) ha, sum_take (fun a => (cntR a).2) ha, ← Int.add_assoc, ← Int.add_assoc]
        rfl
      · rintro σ H' ⟨x, y, rfl, e2⟩
        rw [hvs.lenM, List.take_length]
        refine ⟨_, rfl, _, rfl, (by show 2 ≤ sizeLine; decide), fun u hu => ?_⟩
        refine q u _ ((e1.trans e2).free hu) ((e1.trans e2).trans (Same.new hu)) ?_
        rw [upd_same]
        unfold pr
        rw [hcnt]
theorem ok_counts (Fr : FunAt K mg "row_count" s_row_count) (Fs : FunAt K mg "rows_count" s_rows_count) (Fd : FunAt K mg "rounds_count" s_rounds_count) (G : Glb K mg) (c_statements : Cal P w K mg base "statements" 1 ["rows"] (spStm K)) :
    ∀ n, Cal P w K mg base "row_count" (3 * n + 1) ["row"] (spRow K n) ∧ Cal P w K mg base "rows_count" (3 * n + 2) ["rows", "unlike"] (spRows K n) ∧ Cal P w K mg base "rounds_count" (3 * n + 3) ["row"] (spRounds K n)
  | 0 => by
    have a : Cal P w K mg base "row_count" (3 * 0 + 1) ["row"] (spRow K 0) := Fr.none (fun _ _ _ _ _ _ us hl => match us, hl with | [_], _ => rfl) fun vs H Q E ⟨_, _, _, _, _, _, z, _⟩ => z
    have b := ok_rows_count (n := 0) (k := 3 * 0) Fs G c_statements a
    exact ⟨a, b, ok_rounds_count (n := 0) (k := 3 * 0 + 1) Fd G c_statements b⟩
  | n + 1 => by
    obtain ⟨a0, b0, c0⟩ := ok_counts Fr Fs Fd G c_statements n
    have a : Cal P w K mg base "row_count" (3 * n + 1 + 3) ["row"] (spRow K (n + 1)) := row_step (k := 3 * n + 1) Fr G b0 c0
    have b := ok_rows_count (n := n + 1) (k := 3 * n + 3) Fs G c_statements a
    exact ⟨a, b, ok_rounds_count (n := n + 1) (k := 3 * n + 4) Fd G c_statements b⟩
end
end Ca
namespace Ca
open PySem L2
abbrev s_l_counts : Stmt := top 61
abbrev N_l_counts : List Str := ["_law_rows_here", "_law_some", "_law_row", "_law_one"]
theorem sc_l_counts : FnScope N_l_counts ["_law_rows_here"] (defScope s_l_counts) := ⟨rfl, rfl, rfl, by decide +kernel, rfl, by decide +kernel, by decide +kernel⟩
-- cells: []  slots: 0=_law_rows_here 1=_law_some 2=_law_row 3=_law_one
abbrev s_l_count : Stmt := top 60
abbrev N_l_count : List Str := ["_law_row", "_law_ways_here", "_law_own", "_law_many", "_law_once", "_law_some", "_law_rows_here", "_law_one"]
theorem sc_l_count : FnScope N_l_count ["_law_row"] (defScope s_l_count) := ⟨rfl, rfl, rfl, by decide +kernel, rfl, by decide +kernel, by decide +kernel⟩
-- cells: []  slots: 0=_law_row 1=_law_ways_here 2=_law_own 3=_law_many 4=_law_once 5=_law_some 6=_law_rows_here 7=_law_one
section
variable {P : Program} {w : World} {K : PySem.W.Frag} {mg : Str → Option Value} {base : Heap}
/-- tuples of counts that stand in H -/
def PrsAt (H : Hp) : List V → List (Int × Int) → Prop
  | [], [] => True
  | v :: vs, c :: cs => (∃ p, v = .ref p ∧ H p = some (pr c)) ∧ PrsAt H vs cs
  | _, _ => False
theorem PrsAt.mono {H H' : Hp} (e : ∀ p c, H p = some (pr c) → H' p = some (pr c)) : ∀ {vs : List V} {cs : List (Int × Int)}, PrsAt H vs cs → PrsAt H' vs cs
  | [], [], _ => trivial
  | _ :: _, _ :: _, ⟨⟨p, h1, h2⟩, h3⟩ => ⟨⟨p, h1, e _ _ h2⟩, PrsAt.mono e h3⟩
  | [], _ :: _, h => h.elim
  | _ :: _, [], h => h.elim
theorem PrsAt.snoc {H : Hp} {p : Addr} {c : Int × Int} (h : H p = some (pr c)) : ∀ {vs : List V} {cs : List (Int × Int)}, PrsAt H vs cs → PrsAt H (vs ++ [.ref p]) (cs ++ [c])
  | [], [], _ => ⟨⟨p, rfl, h⟩, trivial⟩
  | _ :: _, _ :: _, ⟨h1, h3⟩ => ⟨h1, PrsAt.snoc h h3⟩
  | [], _ :: _, h => h.elim
  | _ :: _, [], h => h.elim
theorem PrsAt.length {H : Hp} : ∀ {vs : List V} {cs : List (Int × Int)}, PrsAt H vs cs → vs.length = cs.length
  | [], [], _ => rfl
  | _ :: _, _ :: _, ⟨_, h3⟩ => congrArg (· + 1) (PrsAt.length h3)
  | [], _ :: _, h => h.elim
  | _ :: _, [], h => h.elim
theorem PrsAt.get {H : Hp} : ∀ {vs : List V} {cs : List (Int × Int)} {i : Nat} {v : V}, PrsAt H vs cs → vs[i]? = some v → ∃ p c, v = .ref p ∧ cs[i]? = some c ∧ H p = some (pr c)
  | [], [], _, _, _, e => by simp at e
  | _ :: _, c :: _, 0, _, ⟨⟨p, h1, h2⟩, _⟩, e => by
    simp at e
    subst e
    exact ⟨p, c, h1, rfl, h2⟩
  | _ :: _, _ :: _, i + 1, v, ⟨_, h3⟩, e => by
    obtain ⟨p, c, h4, h5, h6⟩ := PrsAt.get (i := i) (v := v) h3 (by simpa using e)
    exact ⟨p, c, h4, by simpa using h5, h6⟩
  | [], _ :: _, _, _, h, _ => h.elim
  | _ :: _, [], _, _, h, _ => h.elim
theorem PrsAt.dp {H : Hp} : ∀ {vs : List V} {cs : List (Int × Int)}, PrsAt H vs cs → DpAll K H vs (cs.map fun c => .tuple [.int c.1, .int c.2])
  | [], [], _ => .nil
  | _ :: _, _ :: _, ⟨⟨p, h1, h2⟩, h3⟩ => .cons (by
      rw [h1]
      exact .tup (SqT.of h2) (.cons (.int _) (.cons (.int _) .nil))) (PrsAt.dp h3)
  | [], _ :: _, h => h.elim
  | _ :: _, [], h => h.elim
theorem pr_ne {H : Hp} {D : Addr} {xs ys : List V} (h : H D = some (.lst xs)) : ∀ p c, H p = some (pr c) → upd H D (.lst ys) p = some (pr c) := fun p c e => by
  rw [upd_ne]
  · exact e
  · intro z
    rw [z, h] at e
    cases e
/-- a comprehension whose items are tuples of counts -/
def LcC (H1 : Hp) (cs : List (Int × Int)) (D : Addr) (i : Nat) (H : Hp) : Prop := H1 D = none ∧ Same H1 H ∧ ∃ acc, H D = some (.lst acc) ∧ PrsAt H acc (cs.take i)
theorem LcC.start {H1 : Hp} {cs : List (Int × Int)} {D : Addr} (h : H1 D = none) : LcC H1 cs D 0 (upd H1 D (.lst [])) := ⟨h, Same.new h, [], upd_same, trivial⟩
theorem LcC.put {H1 H H4 : Hp} {cs : List (Int × Int)} {D p : Addr} {i : Nat} {c : Int × Int} (q : LcC H1 cs D i H) (e : Same H H4) (hc : cs[i]? = some c) (hp : H4 p = some (pr c)) (hs : cs.length < 1000000) :
    ∃ acc, H4 D = some (.lst acc) ∧ acc.length < sizeLine ∧ LcC H1 cs D (i + 1) (upd H4 D (.lst (acc ++ [.ref p]))) := by
  obtain ⟨q1, q2, acc, q3, q4⟩ := q
  refine ⟨acc, e _ _ q3, ?_, q1, (q2.trans e).mut q1, acc ++ [.ref p], upd_same, ?_⟩
  · rw [q4.length, sizeLine_eq, List.length_take]
    omega
  · rw [List.take_succ, hc]
    have z := e _ _ q3
    exact PrsAt.snoc (pr_ne z _ _ hp) ((q4.mono fun p c k => e _ _ k).mono (pr_ne z))
theorem map_ints {α : Type} (f : α → Int) (l : List α) : l.map (fun c => V.int (f c)) = (l.map f).map V.int := by
  rw [List.map_map]
  rfl
def spLCount (K : PySem.W.Frag) (n : Nat) : Sp := Sp1 fun row H Q => ∃ (r : Row) (E : En), Da K H row r.d ∧ r.mark = false ∧ r.Ok E n ∧ n ≤ 10 ∧ ∀ p H', H p = none → Same H H' → H' p = some (pr r.cnt) → Q (.ref p) H'
def spLCounts (K : PySem.W.Frag) (n : Nat) : Sp := Sp1 fun rows H Q => ∃ (rs : List Row) (E : En), Da K H rows (rd rs) ∧ RowsOk E n rs ∧ n ≤ 10 ∧ ∀ p H', H p = none → Same H H' → H' p = some (pr (cntR rs)) → Q (.ref p) H'
theorem tup_layC (cs : List (Int × Int)) : Lay 2 (.list (cs.map fun c => .tuple [.int c.1, .int c.2])) := lay_lst (lay_m fun c _ => lay_tup (k := 0) (lay2 (lay_int _) (lay_int _)))
theorem ok_lcounts {n k : Nat} (F : FunAt K mg "_law_counts" s_l_counts) (G : Glb K mg) (c_law_statements : Cal P w K mg base "_law_statements" 1 ["_law_rows_here"] (spStm K)) (c_law_count : Cal P w K mg base "_law_count" (k + 1) ["_law_row"] (spLCount K n)) :
    Cal P w K mg base "_law_counts" (k + 2) ["_law_rows_here"] (spLCounts K n) := by
  refine F.cal sc_l_counts Sp1.len (fun _ _ _ _ _ _ us hl => match us, hl with | [_], _ => rfl) fun f cdv A outer s H vs Q E hr h => ?_
  have nd := sc_l_counts.nd
  have hu := hu_of hr
  have m_len := G.len
  have m_sum := G.sum
  refine ⟨_, (pss_cons (ps_setLc (i := 1) rfl nd rfl rfl (sw_true rfl rfl rfl (by decide +kernel)) (own := [("_law_row", 2)]) (g := (gName 2)) (tt := tYes) (pi_list (pe_cal c_law_statements hr rfl (pa_cons (pv 0) pa_nil))) (blkOk_by (own := [("_law_row", 2)]) (N := N_l_counts) (sc := defScope s_l_counts) (by decide +kernel)) (fun _ _ _ _ _ => (pg_name (i := 2) nd rfl (Or.inl rfl))) (fun _ _ _ _ _ => pts_nil) (fun _ _ _ _ _ => (pe_cal c_law_count hr rfl (pa_cons (pv 2) pa_nil))))
    (pss_cons (ps_if (pt_cmpR (op_eqD hr.units) (pv 1) (pe_lst pa_nil) (nomark _)) (pss_one (ps_ret (pe_tup (pa_cons pe_int (pa_cons pe_int pa_nil))))) pss_nil)
    (pss_one (ps_ret (pe_tup (pa_cons (pe_op op_add (pe_op op_sub (pe_callB call_len_seq (by rfl) m_len (by decide +kernel) (pa_cons (pv 1) pa_nil)) pe_int) (pe_callB (cr_sum rfl) (by rfl) m_sum (by decide +kernel) (pa_cons (pe_lc (own := [("_law_one", 3)]) (g := (gName 3)) (tt := tYes) rfl nd (pi_list (pv 1)) (blkOk_by (own := [("_law_one", 3)]) (N := N_l_counts) (sc := defScope s_l_counts) (by decide +kernel)) (fun _ _ _ _ _ => (pg_name (i := 3) nd rfl (Or.inl rfl))) (fun _ _ _ _ _ => pts_nil) (fun _ _ _ _ _ => (pe_ix (ix_tupK (K := K) rfl) (pv 3) pe_int (fun _ _ => rfl)))) pa_nil))) (pa_cons (pe_callB (cr_sum rfl) (by rfl) m_sum (by decide +kernel) (pa_cons (pe_lc (own := [("_law_one", 3)]) (g := (gName 3)) (tt := tYes) rfl nd (pi_list (pv 1)) (blkOk_by (own := [("_law_one", 3)]) (N := N_l_counts) (sc := defScope s_l_counts) (by decide +kernel)) (fun _ _ _ _ _ => (pg_name (i := 3) nd rfl (Or.inl rfl))) (fun _ _ _ _ _ => pts_nil) (fun _ _ _ _ _ => (pe_ix (ix_tupK (K := K) rfl) (pv 3) pe_int (fun _ _ => rfl)))) pa_nil)) pa_nil))))))), ?_⟩
  obtain ⟨rows, rfl, rs, E, h1, ok, hn, q⟩ := h
  have hlen : rs.length < 1000000 := by have := ok.1; omega
  have hst : (stm rs).length ≤ rs.length := List.length_filter_le _ _
  obtain ⟨cs, hcd⟩ : ∃ cs, cs = (stm rs).map Row.cnt := ⟨_, rfl⟩
  have hcs : cs.length = (stm rs).length := by rw [hcd, List.length_map]
  refine ⟨_, rfl, _, rfl, H, rs, Same.refl _, h1, hlen, fun p H1 ys hp e1 hp1 hys => ?_⟩
  have hl : ys.length = (stm rs).length := hys.lenM
  refine ⟨p, rfl, ⟨_, SqL.of hp1⟩, fun D hD => lc_list (K := K) (a := p) (xs := ys) (LcC H1 cs D) (LcC.start hD) (fun i H' _ z => SqL.of (z.2.1 _ _ hp1)) ?_ ?_⟩
  · intro i v H' hi z
    obtain ⟨x, hx, hv⟩ := hys.getM hi
    have hxm := List.mem_of_getElem? hx
    refine ⟨rfl, _, rfl, _, rfl, x, E, hv.mono (e1.trans z.2.1), (mem_stm hxm).2, ok.2 x hxm, hn, fun t H2 ht e2 ht2 => ?_⟩
    exact z.put e2 (by rw [hcd, List.getElem?_map, hx]; rfl) ht2 (by omega)
  · rintro H2 ⟨hD1, e2, acc, hD2, hacc⟩
    rw [hl, ← hcs, List.take_length] at hacc
    have e3 := e1.trans e2
    refine ⟨_, rfl, Nat.zero_le _, fun l hl0 => ?_⟩
    have e4 : Same H2 (upd H2 l (.lst [])) := Same.new hl0
    have acc4 := hacc.mono fun p c k => e4 _ _ k
    refine ⟨.list (cs.map fun c => .tuple [.int c.1, .int c.2]), .list [], .lst (SqL.of (e4 _ _ hD2)) acc4.dp, .lst (SqL.of upd_same) .nil, (tup_layC cs).shaped (by decide), rfl, (cs.map fun c => PyData.tuple [.int c.1, .int c.2]).isEmpty, congrArg V.bl (eqv_nil _), ?_⟩
    refine ite2 (fun c => ?_) (fun c => ?_)
    · have e0 : stm rs = [] := by simpa [hcd] using c
      refine ⟨(by show 2 ≤ sizeLine; decide), fun t ht => ?_⟩
      refine q t _ (e3.free (e4.free ht)) ((e3.trans e4).trans (Same.new ht)) ?_
      rw [upd_same]
      unfold pr cntR cntX
      rw [if_pos e0]
    · have e0 : ¬ stm rs = [] := by simpa [hcd] using c
      refine ⟨_, rfl, D, _, rfl, .inl (SqL.of (e4 _ _ hD2)), _, _, rfl, rfl, ?_⟩
      refine ⟨_, rfl, D, rfl, ⟨_, SqL.of (e4 _ _ hD2)⟩, fun D2 hD2' => lc_list (K := K) (a := D) (xs := acc) (LcP _ cs (fun c => some (.int c.1)) D2) (LcP.start hD2') (fun i H' _ z => SqL.of (z.same _ _ (e4 _ _ hD2))) ?_ ?_⟩
      · intro i v H' hi z
        obtain ⟨t, c, rfl, hc, ht⟩ := acc4.get hi
        refine ⟨rfl, _, rfl, t, _, 0, _, rfl, rfl, SqT.of (z.same _ _ ht), rfl, ?_⟩
        exact z.put (Same.refl _) hc rfl (by omega)
      · intro H5 z
        rw [acc4.length] at z
        obtain ⟨z1, z2, z3⟩ := z.end_
        rw [fm_map] at z3
        have e5 := map_ints (fun c : Int × Int => c.1) cs
        rw [e5] at z3
        refine ⟨D2, _, rfl, SqL.of z3, _, _, rfl, rfl, ?_⟩
        have hD5 := z2 _ _ (e4 _ _ hD2)
        refine ⟨_, rfl, D, rfl, ⟨_, SqL.of hD5⟩, fun D3 hD3 => lc_list (K := K) (a := D) (xs := acc) (LcP _ cs (fun c => some (.int c.2)) D3) (LcP.start hD3) (fun i H' _ z => SqL.of (z.same _ _ hD5)) ?_ ?_⟩
        · intro i v H' hi z
          obtain ⟨t, c, rfl, hc, ht⟩ := acc4.get hi
          refine ⟨rfl, _, rfl, t, _, 1, _, rfl, rfl, SqT.of (z.same _ _ (z2 _ _ ht)), rfl, ?_⟩
          exact z.put (Same.refl _) hc rfl (by omega)
        · intro H6 y
          rw [acc4.length] at y
          obtain ⟨y1, y2, y3⟩ := y.end_
          rw [fm_map] at y3
          have e6 := map_ints (fun c : Int × Int => c.2) cs
          rw [e6] at y3
          refine ⟨D3, _, rfl, SqL.of y3, (by show 2 ≤ sizeLine; decide), fun t ht => ?_⟩
          have e7 := ((e3.trans e4).trans z2).trans y2
          refine q t _ (e7.free ht) (e7.trans (Same.new ht)) ?_
          rw [upd_same]
          unfold pr cntR cntX
          rw [if_neg e0, cntS_eq, acc4.length, hcs, hcd, List.map_map, List.map_map]
          rfl
theorem row_words {n : Nat} {E0 : En} {r : Row} (hmk : r.mark = false) (ok : r.Ok E0 n) (h1 : ∀ r0 a b, r ≠ .iff r0 a b) (h2 : ∀ r0 a, r ≠ .whl r0 a) (h3 : ∀ ws, r ≠ .either ws) (h4 : ∀ m a, r ≠ .rounds m a) : r.plain = true ∧ ¬ r.word = "if" ∧ ¬ r.word = "while" ∧ ¬ r.word = "either" ∧ ¬ r.word = "rounds" := by
  cases r with
  | iff r0 a b => exact absurd rfl (h1 r0 a b)
  | whl r0 a => exact absurd rfl (h2 r0 a)
  | either ws => exact absurd rfl (h3 ws)
  | rounds m a => exact absurd rfl (h4 m a)
  | label _ => cases hmk
  | say _ => cases hmk
  | skip => cases n <;> exact ok.elim
  | set _ => exact ⟨rfl, (by decide +kernel : ¬ ("set" : Str) = "if"), (by decide +kernel : ¬ ("set" : Str) = "while"), (by decide +kernel : ¬ ("set" : Str) = "either"), (by decide +kernel : ¬ ("set" : Str) = "rounds")⟩
  | wait _ => exact ⟨rfl, (by decide +kernel : ¬ ("wait" : Str) = "if"), (by decide +kernel : ¬ ("wait" : Str) = "while"), (by decide +kernel : ¬ ("wait" : Str) = "either"), (by decide +kernel : ¬ ("wait" : Str) = "rounds")⟩
  | take _ => exact ⟨rfl, (by decide +kernel : ¬ ("take" : Str) = "if"), (by decide +kernel : ¬ ("take" : Str) = "while"), (by decide +kernel : ¬ ("take" : Str) = "either"), (by decide +kernel : ¬ ("take" : Str) = "rounds")⟩
  | give _ => exact ⟨rfl, (by decide +kernel : ¬ ("give" : Str) = "if"), (by decide +kernel : ¬ ("give" : Str) = "while"), (by decide +kernel : ¬ ("give" : Str) = "either"), (by decide +kernel : ¬ ("give" : Str) = "rounds")⟩
theorem lcount_step {n k : Nat} (F : FunAt K mg "_law_count" s_l_count) (G : Glb K mg) (c_law_statements : Cal P w K mg base "_law_statements" 1 ["_law_rows_here"] (spStm K)) (c_law_counts : Cal P w K mg base "_law_counts" (k + 1) ["_law_rows_here"] (spLCounts K n)) :
    Cal P w K mg base "_law_count" (k + 2) ["_law_row"] (spLCount K (n + 1)) := by
  refine F.cal sc_l_count Sp1.len (fun _ _ _ _ _ _ us hl => match us, hl with | [_], _ => rfl) fun f cdv A outer s H vs Q E hr h => ?_
  have nd := sc_l_count.nd
  have hu := hu_of hr
  have m_int := G.int
  have m_len := G.len
  have m_list := G.list
  have m_sum := G.sum
  refine ⟨_, (Evl.pss_cut (ps_if (pt_cmpR op_eq (pe_ix ix_tup (pv 0) pe_int (fun _ _ => rfl)) pe_str (nomark _)) (pss_cons (ps_set (i := 1) nd rfl (Or.inl rfl) (pe_op op_cat (pe_lst (pa_cons (pe_ix ix_tup (pv 0) pe_int (fun _ _ => rfl)) pa_nil)) (pe_op op_rep (pe_lst (pa_cons (pe_ix ix_tup (pv 0) pe_int (fun _ _ => rfl)) pa_nil)) (pe_callTy call_int1 (by rfl) m_int (by decide +kernel) (pa_cons (pe_cmpR (op_neD hr.units) (pe_ix ix_tup (pv 0) pe_int (fun _ _ => rfl)) (pe_lst pa_nil) (nomark _)) pa_nil)))))
      (pss_one (ps_set (i := 2) nd rfl (Or.inl rfl) (pe_tup (pa_cons (pe_callB call_len_seq (by rfl) m_len (by decide +kernel) (pa_cons (pv 1) pa_nil)) (pa_cons pe_int pa_nil)))))) (pss_one (ps_if (pt_cmpR op_eq (pe_ix ix_tup (pv 0) pe_int (fun _ _ => rfl)) pe_str (nomark _)) (pss_cons (ps_set (i := 1) nd rfl (Or.inl rfl) (pe_lst (pa_cons (pe_ix ix_tup (pv 0) pe_int (fun _ _ => rfl)) pa_nil)))
        (pss_one (ps_set (i := 2) nd rfl (Or.inl rfl) (pe_tup (pa_cons pe_int (pa_cons pe_int pa_nil)))))) (pss_one (ps_if (pt_cmpR op_eq (pe_ix ix_tup (pv 0) pe_int (fun _ _ => rfl)) pe_str (nomark _)) (pss_cons (ps_set (i := 1) nd rfl (Or.inl rfl) (pe_callTy call_list_of (by rfl) m_list (by decide +kernel) (pa_cons (pe_ix ix_tup (pv 0) pe_int (fun _ _ => rfl)) pa_nil)))
          (pss_one (ps_set (i := 2) nd rfl (Or.inl rfl) (pe_tup (pa_cons (pe_callB call_len_seq (by rfl) m_len (by decide +kernel) (pa_cons (pv 1) pa_nil)) (pa_cons (pe_callB call_len_seq (by rfl) m_len (by decide +kernel) (pa_cons (pv 1) pa_nil)) pa_nil)))))) (pss_one (ps_if (pt_cmpR op_eq (pe_ix ix_tup (pv 0) pe_int (fun _ _ => rfl)) pe_str (nomark _)) (pss_cons (ps_set (i := 3) nd rfl (Or.inl rfl) (pe_op op_mul (pe_ix ix_tup (pv 0) pe_int (fun _ _ => rfl)) (pe_callB call_len_seq (by rfl) m_len (by decide +kernel) (pa_cons (pe_cal c_law_statements hr rfl (pa_cons (pe_ix ix_tup (pv 0) pe_int (fun _ _ => rfl)) pa_nil)) pa_nil))))
            (pss_cons (ps_set (i := 4) nd rfl (Or.inl rfl) (pe_cal c_law_counts hr rfl (pa_cons (pe_ix ix_tup (pv 0) pe_int (fun _ _ => rfl)) pa_nil)))
            (pss_cons (ps_if (pt_cmpR op_eq (pv 3) pe_int (nomark _)) (pss_one (ps_ret (pe_tup (pa_cons pe_int (pa_cons pe_int pa_nil))))) pss_nil)
            (pss_one (ps_ret (pe_tup (pa_cons (pe_op op_sub (pe_op op_add (pe_op op_mul (pe_ix ix_tup (pv 0) pe_int (fun _ _ => rfl)) (pe_ix ix_tup (pv 4) pe_int (fun _ _ => rfl))) (pe_ix ix_tup (pv 0) pe_int (fun _ _ => rfl))) pe_int) (pa_cons (pe_op op_mul (pe_ix ix_tup (pv 0) pe_int (fun _ _ => rfl)) (pe_ix ix_tup (pv 4) pe_int (fun _ _ => rfl))) pa_nil)))))))) (pss_one (ps_ret (pe_tup (pa_cons pe_int (pa_cons pe_int pa_nil))))))))))))
    (pss_cons (ps_setLc (i := 5) rfl nd rfl rfl (sw_true rfl rfl rfl (by decide +kernel)) (own := [("_law_rows_here", 6)]) (g := (gName 6)) (tt := tYes) (pi_list (pv 1)) (blkOk_by (own := [("_law_rows_here", 6)]) (N := N_l_count) (sc := defScope s_l_count) (by decide +kernel)) (fun _ _ _ _ _ => (pg_name (i := 6) nd rfl (Or.inl rfl))) (fun _ _ _ _ _ => pts_nil) (fun _ _ _ _ _ => (pe_cal c_law_counts hr rfl (pa_cons (pv 6) pa_nil))))
    (pss_one (ps_ret (pe_tup (pa_cons (pe_op op_add (pe_ix ix_tup (pv 2) pe_int (fun _ _ => rfl)) (pe_callB (cr_sum rfl) (by rfl) m_sum (by decide +kernel) (pa_cons (pe_lc (own := [("_law_one", 7)]) (g := (gName 7)) (tt := tYes) rfl nd (pi_list (pv 5)) (blkOk_by (own := [("_law_one", 7)]) (N := N_l_count) (sc := defScope s_l_count) (by decide +kernel)) (fun _ _ _ _ _ => (pg_name (i := 7) nd rfl (Or.inl rfl))) (fun _ _ _ _ _ => pts_nil) (fun _ _ _ _ _ => (pe_ix (ix_tupK (K := K) rfl) (pv 7) pe_int (fun _ _ => rfl)))) pa_nil))) (pa_cons (pe_op op_add (pe_ix ix_tup (pv 2) pe_int (fun _ _ => rfl)) (pe_callB (cr_sum rfl) (by rfl) m_sum (by decide +kernel) (pa_cons (pe_lc (own := [("_law_one", 7)]) (g := (gName 7)) (tt := tYes) rfl nd (pi_list (pv 5)) (blkOk_by (own := [("_law_one", 7)]) (N := N_l_count) (sc := defScope s_l_count) (by decide +kernel)) (fun _ _ _ _ _ => (pg_name (i := 7) nd rfl (Or.inl rfl))) (fun _ _ _ _ _ => pts_nil) (fun _ _ _ _ _ => (pe_ix (ix_tupK (K := K) rfl) (pv 7) pe_int (fun _ _ => rfl)))) pa_nil))) pa_nil))))))), ?_⟩
  obtain ⟨row, rfl, r, E0, h1, hmk, ok, hn, q⟩ := h
  obtain ⟨t, us, ht, hw⟩ := Row.at_word h1
  subst ht
  refine ⟨fun σ' H' => ∃ (l o : Addr) (wl : List (List Row)) (vs : List V) (p0 s0 : Int), σ' = [some (.ref t), some (.ref l), some (.ref o), none, none, none, none, none] ∧ Same H H' ∧ H' l = some (.lst vs) ∧ H' o = some (.tup [.int p0, .int s0]) ∧ Das K H' vs (wl.map rd) ∧ wl.length < 1000 ∧ (∀ w ∈ wl, RowsOk E0 n w) ∧
      r.cnt = (p0 + (wl.map fun a => (cntR a).1).sum, s0 + (wl.map fun a => (cntR a).2).sum), ?_, ?_⟩
  · by_cases hw0 : ∃ r0 a b, r = .iff r0 a b
    · obtain ⟨r0, a, b, rfl⟩ := hw0
      obtain ⟨t', x, y, z, et, h2, h3, h4, h5⟩ := Row.at_iff h1
      cases et
      have ek : (if (!PyData.eqv (rd b) (.list [])) = true then (1 : Int) else 0) = if b = [] then 0 else 1 := by
        unfold rd
        rw [eqv_nil]
        cases b <;> rfl
      refine ⟨_, rfl, t, _, 0, _, rfl, rfl, h2, at0, rfl, _, rfl, ite_eq ?_⟩
      refine ⟨_, rfl, t, _, 2, _, rfl, rfl, h2, rfl, (by show 1 ≤ sizeLine; decide), fun l1 n1 => ?_⟩
      have e1 : Same H (upd H l1 (.lst [y])) := Same.new n1
      refine ⟨_, rfl, t, _, 3, _, rfl, rfl, e1.tup h2, rfl, (by show 1 ≤ sizeLine; decide), fun l2 n2 => ?_⟩
      have e2 := e1.trans (Same.new (o := .lst [z]) n2)
      refine ⟨_, rfl, t, _, 3, _, rfl, rfl, e2.tup h2, rfl, Nat.zero_le _, fun l3 n3 => ?_⟩
      have e3 := e2.trans (Same.new (o := .lst []) n3)
      refine ⟨rd b, .list [], (h5.mono e3).dp, .lst (SqL.of upd_same) .nil, (lay_rd ok.2.2.2.2).shaped (by omega), rfl, .inr ⟨_, rfl, ?_⟩⟩
      have a2 := (Same.new (o := .lst []) n3) _ _ (upd_same (H := upd H l1 (.lst [y])) (a := l2) (o := .lst [z]))
      refine ⟨l2, _, [z], rfl, congrArg V.int ek, a2, ?_, ?_, ?_, fun l4 n4 => ?_⟩
      · by_cases hb : b = []
        · rw [if_pos hb]; decide
        · rw [if_neg hb]; decide
      · by_cases hb : b = []
        · rw [if_pos hb]; decide
        · rw [if_neg hb]; decide
      · by_cases hb : b = []
        · rw [if_pos hb]; exact sz_line (by show 1 * 0 ≤ 2000000; decide)
        · rw [if_neg hb]; exact sz_line (by show 1 * 1 ≤ 2000000; decide)
      obtain ⟨zs, hzs⟩ : ∃ zs, zs = (List.replicate (if b = [] then (0 : Int) else 1).toNat [z]).flatten := ⟨_, rfl⟩
      rw [← hzs]
      have e4 := e3.trans (Same.new (o := .lst zs) n4)
      have a1 : upd (upd (upd (upd H l1 (.lst [y])) l2 (.lst [z])) l3 (.lst [])) l4 (.lst zs) l1 = some (.lst [y]) := Same.new n4 _ _ (Same.new n3 _ _ (Same.new n2 _ _ upd_same))
      have lz : zs.length ≤ 1 := by
        rw [hzs]
        by_cases hb : b = []
        · rw [if_pos hb]; exact Nat.zero_le _
        · rw [if_neg hb]; exact Nat.le_refl 1
      have dvs : ∀ G, Da K G y (rd a) → Da K G z (rd b) → Das K G ([y] ++ zs) ((if b = [] then [a] else [a, b]).map rd) := fun G g1 g2 => by
        rw [hzs]
        by_cases hb : b = []
        · rw [if_pos hb, if_pos hb]
          exact .cons g1 .nil
        · rw [if_neg hb, if_neg hb]
          exact .cons g1 (.cons g2 .nil)
      refine ⟨l1, l4, [y], zs, rfl, rfl, a1, upd_same, sz_line (by show 1 + zs.length ≤ _; omega), fun l5 n5 => ?_⟩
      have e5 := e4.trans (Same.new (o := .lst ([y] ++ zs)) n5)
      refine ⟨_, rfl, l5, _, rfl, .inl (SqL.of upd_same), (by show 2 ≤ sizeLine; decide), fun o no => ?_⟩
      have e6 := e5.trans (Same.new (o := .tup [V.int (([y] ++ zs).length : Nat), V.int 2]) no)
      refine ⟨l5, o, if b = [] then [a] else [a, b], [y] ++ zs, _, _, rfl, e6, Same.new no _ _ upd_same, upd_same, dvs _ (h4.mono e6) (h5.mono e6), ?_, ?_, ?_⟩
      · by_cases hb : b = []
        · rw [if_pos hb]; exact (by decide : 1 < 1000)
        · rw [if_neg hb]; exact (by decide : 2 < 1000)
      · have oka : RowsOk E0 n a := rowsOk_of ok.2.1 ok.2.2.1
        have okb : RowsOk E0 n b := rowsOk_of ok.2.2.2.1 ok.2.2.2.2
        intro w hw'
        by_cases hb : b = []
        · rw [if_pos hb] at hw'
          rcases List.mem_cons.mp hw' with rfl | hw'
          · exact oka
          · exact nomatch hw'
        · rw [if_neg hb] at hw'
          rcases List.mem_cons.mp hw' with rfl | hw'
          · exact oka
          · rcases List.mem_cons.mp hw' with rfl | hw'
            · exact okb
            · exact nomatch hw'
      · rw [hzs]
        unfold Row.cnt
        by_cases hb : b = []
        · rw [if_pos hb, if_pos hb, if_pos hb]
          simp [cntR]
        · rw [if_neg hb, if_neg hb, if_neg hb]
          simp [cntR, Int.add_assoc]
    refine ⟨_, rfl, t, _, 0, _, rfl, rfl, hw, at0, rfl, _, rfl, ?_⟩
    by_cases hw1 : ∃ r0 a, r = .whl r0 a
    · obtain ⟨r0, a, rfl⟩ := hw1
      obtain ⟨t', x, y, et, h2, h3, h4⟩ := Row.at_whl h1
      cases et
      refine ite_ne (by decide +kernel : ¬ ("while" : Str) = "if") ?_
      refine ⟨_, rfl, t, _, 0, _, rfl, rfl, h2, at0, rfl, _, rfl, ite_eq ?_⟩
      refine ⟨_, rfl, t, _, 2, _, rfl, rfl, h2, rfl, (by show 1 ≤ sizeLine; decide), fun l n1 => ?_⟩
      have e1 : Same H (upd H l (.lst [y])) := Same.new n1
      refine ⟨(by show 2 ≤ sizeLine; decide), fun o no => ?_⟩
      have e2 := e1.trans (Same.new (o := .tup [V.int 1, V.int 2]) no)
      refine ⟨l, o, [a], [y], _, _, rfl, e2, Same.new no _ _ upd_same, upd_same, .cons (h4.mono e2) .nil, (by decide : 1 < 1000), ?_, ?_⟩
      · intro w hw'
        rcases List.mem_cons.mp hw' with rfl | hw'
        · exact rowsOk_of ok.2.1 ok.2.2
        · exact nomatch hw'
      · unfold Row.cnt
        simp [cntR]
    by_cases hw2 : ∃ ws, r = .either ws
    · obtain ⟨ws, rfl⟩ := hw2
      obtain ⟨t', u, xs, et, h2, h3, h4⟩ := Row.at_either h1
      cases et
      refine ite_ne (by decide +kernel : ¬ ("either" : Str) = "if") ?_
      refine ⟨_, rfl, t, _, 0, _, rfl, rfl, h2, at0, rfl, _, rfl, ite_ne (by decide +kernel) ?_⟩
      refine ⟨_, rfl, t, _, 0, _, rfl, rfl, h2, at0, rfl, _, rfl, ite_eq ?_⟩
      refine ⟨_, rfl, t, _, 1, _, rfl, rfl, h2, at1, u, _, rfl, .inr h3, fun l n1 => ?_⟩
      have e1 : Same H (upd H l (.lst xs)) := Same.new n1
      refine ⟨_, rfl, l, _, rfl, .inl (SqL.of upd_same), _, rfl, l, _, rfl, .inl (SqL.of upd_same), (by show 2 ≤ sizeLine; decide), fun o no => ?_⟩
      have e2 := e1.trans (Same.new (o := .tup [V.int (xs.length : Nat), V.int (xs.length : Nat)]) no)
      refine ⟨l, o, ws, xs, _, _, rfl, e2, Same.new no _ _ upd_same, upd_same, h4.mono e2, by have := ok.2.1; omega, fun w hw' => rowsOk_of (ok.2.2 w hw').1 (ok.2.2 w hw').2, ?_⟩
      rw [h4.lenM]
      unfold Row.cnt
      rw [cntW_eq]
    by_cases hw3 : ∃ m a, r = .rounds m a
    · obtain ⟨m, a, rfl⟩ := hw3
      obtain ⟨t', y, et, h2, h4⟩ := Row.at_rounds h1
      cases et
      refine ite_ne (by decide +kernel : ¬ ("rounds" : Str) = "if") ?_
      refine ⟨_, rfl, t, _, 0, _, rfl, rfl, h2, at0, rfl, _, rfl, ite_ne (by decide +kernel) ?_⟩
      refine ⟨_, rfl, t, _, 0, _, rfl, rfl, h2, at0, rfl, _, rfl, ite_ne (by decide +kernel) ?_⟩
      refine ⟨_, rfl, t, _, 0, _, rfl, rfl, h2, at0, rfl, _, rfl, ite_eq ?_⟩
      have hal : a.length < 1000000 := by have := ok.2.2.1; omega
      have hm : (-(2 ^ 64) < m ∧ m < 2 ^ 64) := ⟨by have := ok.1; omega, by have := ok.2.1; omega⟩
      refine ⟨_, rfl, t, _, 1, _, rfl, rfl, h2, at1, _, rfl, t, _, 2, _, rfl, rfl, h2, rfl, _, rfl, H, a, Same.refl _, h4, hal, fun p H1 ys hp e1 hp1 hys => ?_⟩
      refine ⟨p, _, rfl, .inl (SqL.of hp1), _, _, rfl, rfl, .inl hm, ?_⟩
      refine ⟨_, rfl, t, _, 2, _, rfl, rfl, e1.tup h2, rfl, _, rfl, a, E0, h4.mono e1, rowsOk_of ok.2.2.1 ok.2.2.2, by omega, fun u H2 hu e2 hu2 => ?_⟩
      have e3 := e1.trans e2
      refine ⟨_, rfl, rfl, _, rfl, ?_⟩
      have ez : decide (V.int (m * (ys.length : Int)) = V.int 0) = decide (((stm a).length : Int) * m = 0) := by
        rw [hys.lenM, Bool.eq_iff_iff, Int.mul_comm]
        simp
      rw [ez]
      refine ite2 (fun c => ?_) (fun c => ?_)
      · refine ⟨(by show 2 ≤ sizeLine; decide), fun v hv => ?_⟩
        refine q v _ (e3.free hv) (e3.trans (Same.new hv)) ?_
        rw [upd_same]
        unfold pr Row.cnt
        rw [if_pos (of_decide_eq_true c)]
      · refine ⟨_, rfl, t, _, 1, _, rfl, rfl, e3.tup h2, at1, _, rfl, u, _, 0, _, rfl, rfl, SqT.of hu2, rfl, _, _, rfl, rfl, .inl hm, ?_⟩
        refine ⟨_, rfl, t, _, 1, _, rfl, rfl, e3.tup h2, at1, _, _, rfl, rfl, _, _, rfl, rfl, ?_⟩
        refine ⟨_, rfl, t, _, 1, _, rfl, rfl, e3.tup h2, at1, _, rfl, u, _, 1, _, rfl, rfl, SqT.of hu2, rfl, _, _, rfl, rfl, .inl hm, ?_⟩
        refine ⟨(by show 2 ≤ sizeLine; decide), fun v hv => ?_⟩
        refine q v _ (e3.free hv) (e3.trans (Same.new hv)) ?_
        rw [upd_same]
        unfold pr Row.cnt
        rw [if_neg (fun e => c (decide_eq_true e)), Int.mul_comm m]
        show some (HO.tup [V.int ((cntR a).1 * m + m - 1), V.int (m * (cntR a).2)]) = some (HO.tup [V.int ((cntR a).1 * m + m - 1), V.int ((cntR a).2 * m)])
        rw [Int.mul_comm m]
    obtain ⟨w0, w1, w2, w3, w4⟩ := row_words hmk ok (fun r0 a b e => hw0 ⟨r0, a, b, e⟩) (fun r0 a e => hw1 ⟨r0, a, e⟩) (fun ws e => hw2 ⟨ws, e⟩) (fun m a e => hw3 ⟨m, a, e⟩)
    refine ite_ne w1 ?_
    refine ⟨_, rfl, t, _, 0, _, rfl, rfl, hw, at0, rfl, _, rfl, ite_ne w2 ?_⟩
    refine ⟨_, rfl, t, _, 0, _, rfl, rfl, hw, at0, rfl, _, rfl, ite_ne w3 ?_⟩
    refine ⟨_, rfl, t, _, 0, _, rfl, rfl, hw, at0, rfl, _, rfl, ite_ne w4 ?_⟩
    refine ⟨(by show 2 ≤ sizeLine; decide), fun v hv => ?_⟩
    refine q v _ hv (Same.new hv) ?_
    rw [upd_same]
    cases r <;> first | rfl | cases w0
  · rintro σ' H1 ⟨l, o, wl, vs, p0, s0, rfl, e1, hl, ho, hvs, hwl, hok, hcnt⟩
    obtain ⟨cs, hcd⟩ : ∃ cs, cs = wl.map cntR := ⟨_, rfl⟩
    have hcs : cs.length = wl.length := by rw [hcd, List.length_map]
    refine ⟨_, rfl, l, rfl, ⟨_, SqL.of hl⟩, fun D hD => lc_list (K := K) (a := l) (xs := vs) (LcC H1 cs D) (LcC.start hD) (fun i H' _ z => SqL.of (z.2.1 _ _ hl)) ?_ ?_⟩
    · intro i v H' hi z
      obtain ⟨x, hx, hv⟩ := hvs.getM hi
      refine ⟨rfl, _, rfl, _, rfl, x, E0, hv.mono z.2.1, hok x (List.mem_of_getElem? hx), by omega, fun t H2 ht e2 ht2 => ?_⟩
      exact z.put e2 (by rw [hcd, List.getElem?_map, hx]; rfl) ht2 (by omega)
    · rintro H2 ⟨hD1, e2, acc, hD2, hacc⟩
      rw [hvs.lenM, ← hcs, List.take_length] at hacc
      refine ⟨_, rfl, o, _, 0, _, rfl, rfl, SqT.of (e2 _ _ ho), rfl, ?_⟩
      refine ⟨_, rfl, D, rfl, ⟨_, SqL.of hD2⟩, fun D2 hD2' => lc_list (K := K) (a := D) (xs := acc) (LcP _ cs (fun c => some (.int c.1)) D2) (LcP.start hD2') (fun i H' _ z => SqL.of (z.same _ _ hD2)) ?_ ?_⟩
      · intro i v H' hi z
        obtain ⟨u, c, rfl, hc, hu⟩ := hacc.get hi
        refine ⟨rfl, _, rfl, u, _, 0, _, rfl, rfl, SqT.of (z.same _ _ hu), rfl, ?_⟩
        exact z.put (Same.refl _) hc rfl (by omega)
      · intro H5 z
        rw [hacc.length] at z
        obtain ⟨z1, z2, z3⟩ := z.end_
        rw [fm_map, map_ints (fun c : Int × Int => c.1)] at z3
        refine ⟨D2, _, rfl, SqL.of z3, _, _, rfl, rfl, ?_⟩
        have hD5 := z2 _ _ hD2
        refine ⟨_, rfl, o, _, 1, _, rfl, rfl, SqT.of (z2 _ _ (e2 _ _ ho)), rfl, ?_⟩
        refine ⟨_, rfl, D, rfl, ⟨_, SqL.of hD5⟩, fun D3 hD3 => lc_list (K := K) (a := D) (xs := acc) (LcP _ cs (fun c => some (.int c.2)) D3) (LcP.start hD3) (fun i H' _ z => SqL.of (z.same _ _ hD5)) ?_ ?_⟩
        · intro i v H' hi z
          obtain ⟨u, c, rfl, hc, hu⟩ := hacc.get hi
          refine ⟨rfl, _, rfl, u, _, 1, _, rfl, rfl, SqT.of (z.same _ _ (z2 _ _ hu)), rfl, ?_⟩
          exact z.put (Same.refl _) hc rfl (by omega)
        · intro H6 y
          rw [hacc.length] at y
          obtain ⟨y1, y2, y3⟩ := y.end_
          rw [fm_map, map_ints (fun c : Int × Int => c.2)] at y3
          refine ⟨D3, _, rfl, SqL.of y3, _, _, rfl, rfl, (by show 2 ≤ sizeLine; decide), fun u hu => ?_⟩
          have e7 := ((e1.trans e2).trans z2).trans y2
          refine q u _ (e7.free hu) (e7.trans (Same.new hu)) ?_
          rw [upd_same]
          unfold pr
          rw [hcnt, hcd, List.map_map, List.map_map]
          rfl
theorem ok_lcount (Fc : FunAt K mg "_law_count" s_l_count) (Fs : FunAt K mg "_law_counts" s_l_counts) (G : Glb K mg) (c_law_statements : Cal P w K mg base "_law_statements" 1 ["_law_rows_here"] (spStm K)) :
    ∀ n, Cal P w K mg base "_law_count" (2 * n + 1) ["_law_row"] (spLCount K n) ∧ Cal P w K mg base "_law_counts" (2 * n + 2) ["_law_rows_here"] (spLCounts K n)
  | 0 => by
    have a : Cal P w K mg base "_law_count" (2 * 0 + 1) ["_law_row"] (spLCount K 0) := Fc.none (fun _ _ _ _ _ _ us hl => match us, hl with | [_], _ => rfl) fun vs H Q E ⟨_, _, _, _, _, _, z, _⟩ => z
    exact ⟨a, ok_lcounts (n := 0) (k := 2 * 0) Fs G c_law_statements a⟩
  | n + 1 => by
    obtain ⟨a0, b0⟩ := ok_lcount Fc Fs G c_law_statements n
    have a : Cal P w K mg base "_law_count" (2 * n + 1 + 2) ["_law_row"] (spLCount K (n + 1)) := lcount_step (k := 2 * n + 1) Fc G c_law_statements b0
    exact ⟨a, ok_lcounts (n := n + 1) (k := 2 * n + 2) Fs G c_law_statements a⟩
end
end Ca
namespace Ca.NeL
open PySem PySem.SeqAt L2
open PySem.AutoSeq1 (wpAny_loadPart')
open PySem.MeetsSeq PySem.MeetsSeq2 PySem.MeetsSeq3 PySem.SeqRoads2
section
variable {prog : Program} {w : World}
/-- two lists of equal items are not unequal: the loop over the items -/
theorem loop (l b : Addr) (us ws : Array Value) (n m : Nat) (dd dd2 : Option Addr) (sl sl2 : Array (Option Value)) (hsz : us.size = ws.size) (k : Nat) :
    ∀ i : Nat, us.size - i = k → MeetsIn prog w (Builtin.«list.__eq__.loop» ⟨[.ref l, .ref b, rawInt i, rawInt 3], []⟩)
      (fun A R s => s.heap.get? l = some { cls := .type "list", dict := dd, data := .seq us n, slots := sl } ∧ s.heap.get? b = some { cls := .type "list", dict := dd2, data := .seq ws m, slots := sl2 } ∧
        (∀ j (h1 : j < us.size) (h2 : j < ws.size), EqP prog w A.in1 s us[j] ws[j] true) ∧ R (.ok (.ret (.bool false))) s) := by
  induction k with
  | zero =>
    intro i hk A R s z
    obtain ⟨hp, g, d, tk, os⟩ := s
    obtain ⟨z1, z2, z3, z4⟩ := z
    wp_walk using wpAny_loadPart' z1, wpAny_loadPart' z2
    have o1 : us[((i : Nat) : Int).toNat]? = none := by simp; omega
    have o2 : ws[((i : Nat) : Int).toNat]? = none := by simp; omega
    rw [o1, o2]
    wp_walk using wpAny_loadPart' z1, wpAny_loadPart' z2
    show R (.ok (.ret (.bool (us.size != ws.size)))) _
    rw [hsz]
    simpa using z4
  | succ k ih =>
    intro i hk A R s z
    obtain ⟨hp, g, d, tk, os⟩ := s
    obtain ⟨z1, z2, z3, z4⟩ := z
    wp_walk using wpAny_loadPart' z1, wpAny_loadPart' z2
    have i1 : i < us.size := by omega
    have i2 : i < ws.size := by omega
    have o1 : us[((i : Nat) : Int).toNat]? = some us[i] := by simp [i1]
    have o2 : ws[((i : Nat) : Int).toNat]? = some ws[i] := by simp [i2]
    have ec : ((i : Int) + 1) = ((i + 1 : Nat) : Int) := by push_cast; rfl
    rw [o1, o2]
    refine wpAny_bind (z3 i i1 i2 _ _ ?_)
    wp_walk
    rw [ec]
    exact ⟨plainId_quiet plain_eq_loop _, codeAny_builtin entry_eq_loop (by
      rw [Around.under_plainId plain_eq_loop _]
      exact ih (i + 1) (by omega) A R _ ⟨z1, z2, z3, z4⟩)⟩
theorem enter (l b : Addr) (us ws : Array Value) (n m : Nat) (dd dd2 : Option Addr) (sl sl2 : Array (Option Value)) (hsz : us.size = ws.size) :
    MeetsIn prog w (Builtin.«list.__ne__» ⟨[.ref l, .ref b], []⟩)
      (fun A R s => s.heap.get? l = some { cls := .type "list", dict := dd, data := .seq us n, slots := sl } ∧ s.heap.get? b = some { cls := .type "list", dict := dd2, data := .seq ws m, slots := sl2 } ∧
        (∀ j (h1 : j < us.size) (h2 : j < ws.size), EqP prog w A.in1 s us[j] ws[j] true) ∧ R (.ok (.ret (.bool false))) s) := by
  intro A R s z
  obtain ⟨hp, g, d, tk, os⟩ := s
  obtain ⟨z1, z2, z3, z4⟩ := z
  have f3 := AutoSeq1.sub_list_list
  have hne : ¬ (us.size != ws.size) = true := by simp [hsz]
  wp_walk using wpAny_loadPart' z1, wpAny_loadPart' z2
  exact ⟨plainId_quiet plain_eq_loop _, codeAny_builtin entry_eq_loop (by
    rw [Around.under_plainId plain_eq_loop _]
    exact loop l b us ws n m dd dd2 sl sl2 hsz _ 0 rfl A R _ ⟨z1, z2, z3, z4⟩)⟩
theorem compare {A : Around} {s : Shared} {l b : Addr} {us ws : Array Value} (hl : s.heap.IsList l us) (hb : s.heap.IsList b ws) (hsz : us.size = ws.size) (hu : A.units < cLine)
    (he : ∀ j (h1 : j < us.size) (h2 : j < ws.size), EqP prog w A.in1 s us[j] ws[j] true) (E Q : Value → Shared → Prop) (h : Q (.bool false) s) : wpAny (model prog w) A (richCompare .NotEq (.ref l) (.ref b)) Q E s := by
  obtain ⟨⟨c1, d1, a1, s1⟩, o1, k1, n1, e1⟩ := id hl
  obtain ⟨⟨c2, d2, a2, s2⟩, o2, k2, n2, e2⟩ := id hb
  simp only at k1 e1 k2 e2
  subst k1 e1 k2 e2
  have ta : s.TypeIs (.ref l) "list" := ⟨_, o1, rfl⟩
  have tb : s.TypeIs (.ref b) "list" := ⟨_, o2, rfl⟩
  exact wpAny_richCompare_same_room (op := .NotEq) ta tb F.slot_list_ne (call_meetsIn F.slot_list_ne ta F.entry_list_ne (F.args_list_ne_2 _ _) (enter l b us ws n1 n2 d1 d2 s1 s2 hsz)
    ⟨o1, o2, he, show Value.bool false ≠ Value.notImplemented ∧ Q (.bool false) s from ⟨(fun x => nomatch x), h⟩⟩) hu
end
section
variable {X : Cx}
/-- xs != ys, two lists of equal dicts: False -/
def rNeL (K : PySem.W.Frag) : R2 := fun x y H Q => ∃ (n : Nat) (a b : Addr) (xs ys : List V), n ≤ 60 ∧ x = .ref a ∧ y = .ref b ∧ SqL K H a xs ∧ SqL K H b ys ∧ Paired (EqV K H n) xs ys ∧ Q (.bl false) H
theorem op_neL (hu : X.A.units + 64 < cLine) : OpR X (compareOp .NotEq) (rNeL X.K) := by
  intro pins s σ H x y v u Q I rx ry h
  obtain ⟨n, a, b, xs, ys, hn, rfl, rfl, ha, hb, hp, q⟩ := h
  cases (show v = Value.ref a from rx)
  cases (show u = Value.ref b from ry)
  obtain ⟨us, r1, p1, _⟩ := I.list ha
  obtain ⟨ws, r2, p2, _⟩ := I.list hb
  have hsz : us.toArray.size = ws.toArray.size := by
    rw [List.size_toArray, List.size_toArray, ← r1.length, ← r2.length]
    exact Paired.length hp
  refine compare (prog := X.prog) (w := X.w) p1.isList p2.isList hsz (by omega) (fun j h1 h2 => ?_) _ _ ⟨.bl false, H, I, rfl, q⟩
  have k := items_run (eqV_run I n X.A.in1 (by show X.A.units + 1 + n < cLine; omega)) hp r1 r2 j (by simpa using h1) (by simpa using h2)
  simpa using k
end
end Ca.NeL
/-! d.setdefault of a tuple's key -/
namespace Ca
open PySem L2 PySem.Spec PyProof.Rows
def tDSetdT (td ty tx : TE) : TE := fun σ H Q => td σ H fun x H1 => ∃ a, x = .ref a ∧ IsD H1 a ∧ ty σ H1 fun y H2 => tx σ H2 fun z H3 => ∃ (kvs : List (List Key × V)) (k : List Key) (b : Addr), H3 a = some (.dT kvs) ∧ y = .ref b ∧ H3 b = some (.tup (k.map kV)) ∧ kvs.length < sizeLine ∧
  (∀ v, valV kvs k = some v → Q v H3) ∧ (valV kvs k = none → Q z (upd H3 a (.dT (putK kvs k z))))
section
variable {X : Cx}
theorem setd_run {pins : List (Addr × Obj)} {σ : L2.St} {H : Hp} {s : Shared} {a b : Addr} {z : V} {r : Value} {A : Around} {E Q : Value → Shared → Prop} {kvs : List (List Key × V)} {k : List Key} (hu : A.units + 1 < cLine) (I : Inv X pins σ H s) (e : H a = some (.dT kvs)) (eb : H b = some (.tup (k.map kV))) (rz : RelV z r) (hl : kvs.length < sizeLine)
    (h1 : ∀ v w' s', valV kvs k = some v → Inv X pins σ H s' → RelV v w' → Q w' s') (h2 : ∀ s', valV kvs k = none → Inv X pins σ (upd H a (.dT (putK kvs k z))) s' → Q r s') :
    wpAny (model X.prog X.w) A (call (.builtin "dict.setdefault") [.ref a, .ref b, r]) Q E s := by
  obtain ⟨_, hd, xs, rel, dd⟩ := dt_of I.hok e
  have hz : xs.length ≤ sizeLine := by
    rw [← Paired.length rel]
    omega
  have q := rel.val k
  refine call_setdefault_heap (tupleKind_room_in1 hu) (key_of I.hok eb) hd dd (fun p hp => ?_) (fun hn h' dd' hs => ?_) hz
  · rw [hp] at q
    cases q0 : valV kvs k with
    | none =>
      rw [q0] at q
      exact q.elim
    | some v =>
      rw [q0] at q
      exact h1 v _ _ q0 (I.tok _) q
  · rw [hn] at q
    cases q0 : valV kvs k with
    | some v =>
      rw [q0] at q
      exact q.elim
    | none =>
      refine h2 _ q0 ?_
      have hl2 : (putK kvs k z).length ≤ sizeLine := by
        have := length_putK kvs k z
        omega
      obtain ⟨ob, es, ep, hq, g2, g3, g4, _, g5⟩ := dd'
      refine d_write (t' := _) I (by rw [e]; exact True.intro) hs ⟨ob, hq⟩ ⟨hl2, hd, _, (rel.put k eb rz).keeps fun c ys ec => ?_, ob, es, ep, hq, g2, g3, g4, g5⟩
      rw [upd_ne (ne_of ec e (fun w => nomatch w))]
      exact ec
theorem pe_dsetdT {o e f : Expr} {td ty tx : TE} {apos cpos : Pos} (hu : X.A.units + 1 < cLine) (ho : PE X o td) (he : PE X e ty) (hf : PE X f tx) (m : M2 X o "setdefault" apos e f cpos) : PE X (.Call (.Attribute o "setdefault" apos) [e, f] [] cpos) (tDSetdT td ty tx) := by
  refine ⟨fun pins s σ H Q I h => ?_⟩
  refine wpAny_Call_method m.base m.few m.line PySem.F.plainAttrs_dict PySem.F.slot_dict_setdefault PySem.F.type_dict_setdefault (thn (ho.run pins s σ H _ I h) fun u s1 ⟨x, H1, I1, rx, a, ex, d, q1⟩ => ?_)
  subst ex
  obtain rfl : u = Value.ref a := rx
  obtain ⟨t1, t2, _⟩ := isD_at I1 d
  refine ⟨t1, t2, ?_⟩
  rw [m.trees]
  refine Calls.callWith_builtin rfl (Calls.evalArgs_plain (Calls.spliced_cons (thn (he.run pins s1 σ H1 _ I1 q1) fun iv s2 ⟨y, H2, I2, ry, q2⟩ =>
    Calls.spliced_cons (thn (hf.run pins s2 σ H2 _ I2 q2) fun fv s3 ⟨z, H3, I3, rz, kvs, k, b, ea, ey, eb, hl, q3, q4⟩ => Calls.spliced_nil ?_))))
  subst ey
  cases (show iv = Value.ref b from ry)
  exact setd_run hu I3 ea eb rz hl (fun v w' s' hv I' rw' => ⟨v, _, I', rw', q3 v hv⟩) fun s' hn I' => ⟨z, _, I', rz, q4 hn⟩
end
end Ca
/-! list(reversed(a list)) -/
namespace Ca.LsR
open PySem L2 PySem.Spec PyProof.Rows RT
section
variable {prog : Program} {w : World} {A : Around} {E : Value → Shared → Prop} {s : Shared}
theorem extend {R : Result → Shared → Prop} {it l : Addr} {us : Array Value} (hh : A.handled = none) (S : Addr) (c₀ : Nat) (hit : s.heap.IsRevIter it l ((us.size : Int) - 1)) (hl : s.heap.IsList l us) (hne : l ≠ it) (hn : us.size ≤ sizeLine)
    (hSi : S ≠ it) (hSl : S ≠ l) (hS : s.heap.get? S = some { cls := .type "list", data := .seq #[] c₀ })
    (hR : ∀ h' tk acc' c', (∀ b o, b ≠ S → b ≠ it → s.heap.get? b = some o → h'.get? b = some o) → h'.get? S = some { cls := .type "list", dict := none, data := .seq acc' c', slots := #[] } → ItemsOf (fun i v => us[us.size - 1 - i]? = some v) acc' us.size → R (.ok (.ret .none)) { s with heap := h', toks := tk }) :
    wpAny (model prog w) A.in1 (Builtin.List.listExtendWith (.ref S) (.ref it) .none)
      (fun fin s' => match fin with | .done f => R (.ok f) s' | .again c' => c'.quiet = true ∧ codeAny (model prog w) A c' R s') (fun e s' => R (.error e) s') s := by
  have W := (Walks.listRev (prog := prog) (w := w) (A := A.in1) hh it l hne us).toS
  have hSf : S ∉ [it, l] := by
    simp only [List.mem_cons, List.not_mem_nil, or_false, not_or]
    exact ⟨hSi, hSl⟩
  have hT : s.TypeIs (.ref it) "list_reverseiterator" := hit.typeIs
  have g1 : Builtin.List.listSameRef (.ref S) (.ref it) = false := by simp [Builtin.List.listSameRef, hSi]
  unfold Builtin.List.listExtendWith
  refine wpAny_bind (wpAny_typeOf hT ?_)
  rw [if_neg (by rw [g1]; decide)]
  refine wpAny_bind (wpAny_pyIter_revIter hit ?_)
  refine wpAny_bind (wpAny_holding ?_)
  unfold Builtin.List.listLengthHint
  refine wpAny_bind (wpAny_specialOf hT nolen_lri ?_)
  show wpAny _ A.in1 (specialOf (Value.ref it) (Str.ofString "__length_hint__") >>= _) _ _ _
  refine wpAny_bind (wpAny_specialOf hT hint_lri ?_)
  generalize hid : ("list_reverseiterator.__length_hint__" : String) = id0
  wp_delta
  rw [show splitId id0 = some ("list_reverseiterator", "__length_hint__") from by subst hid; decide +kernel]
  subst hid
  refine wpAny_bind (wpAny_isInstance (b := true) hT (by rw [isSubtype_type]; kernel_rfl) ?_)
  refine wpAny_pure ?_
  rw [if_neg (by decide)]
  have e0 : ((us.size : Nat) : Int) - 1 - ((0 : Nat) : Int) = (us.size : Int) - 1 := by omega
  refine wpAny_pure ⟨plainId_quiet F.plain_extend_loop _, codeAny_extend_loopS W hn _ hSf _ us.size 0 _ _ _ rfl (Nat.zero_le _) ⟨Nat.zero_le _, by rw [e0]; exact hit, hl⟩ hS (ItemsOf.nil _) fun s' acc' c' hm hS' hacc => ?_⟩
  rw [Moved.eq_with hm]
  refine hR s'.heap s'.toks acc' c' (fun b o hb hbi e => hm.heap b o (fun hmem => ?_) e) hS' hacc
  rcases List.mem_cons.mp hmem with e' | hmem
  · exact hb e'
  · exact hbi (List.mem_singleton.mp hmem)
theorem made {Q : Value → Shared → Prop} {it l : Addr} {us : Array Value} (hh : A.handled = none) (hit : s.heap.IsRevIter it l ((us.size : Int) - 1)) (hl : s.heap.IsList l us) (hne : l ≠ it) (hn : us.size ≤ sizeLine)
    (hQ : ∀ h' tk acc' c', (∀ b o, b ≠ it → s.heap.get? b = some o → h'.get? b = some o) → h'.get? s.heap.objs.size = some { cls := .type "list", dict := none, data := .seq acc' c', slots := #[] } → ItemsOf (fun i v => us[us.size - 1 - i]? = some v) acc' us.size → Q (.ref s.heap.objs.size) { s with heap := h', toks := tk }) :
    wpAny (model prog w) A (call (.type "list") [.ref it]) Q E s := by
  obtain ⟨oi, hoi, _⟩ := id hit
  obtain ⟨ol, hol, _⟩ := id hl
  have hSi : s.heap.objs.size ≠ it := Nat.ne_of_gt (Heap.lt_size hoi)
  have hSl : s.heap.objs.size ≠ l := Nat.ne_of_gt (Heap.lt_size hol)
  refine callType_codes (Q₁ := fun obj s₁ => obj = .ref s.heap.objs.size ∧ s₁ = { s with heap := s.heap.push { cls := .type "list", data := .seq #[] } }) PySem.F.called_list (PySem.F.typeCall_list_1 _) PySem.F.entry_list_init
    (code_list_new _ ⟨rfl, rfl⟩) fun obj s₁ h₁ => ?_
  obtain ⟨rfl, rfl⟩ := h₁
  have hS : (s.heap.push { cls := .type "list", data := .seq #[] }).get? s.heap.objs.size = some { cls := .type "list", data := .seq #[] } := Heap.get?_push_size _ rfl
  refine ⟨⟨_, hS, rfl⟩, PySem.F.args_list_init_2 _ _, ?_⟩
  show wpAny _ _ (do let old ← Builtin.List.listItems (.ref s.heap.objs.size); Builtin.List.listUpdate (.ref s.heap.objs.size) (fun _ => #[]); letGo old.toList.reverse; Builtin.List.listExtendWith (.ref s.heap.objs.size) (.ref it) .none) _ _ _
  refine wpAny_bind ?_
  unfold Builtin.List.listItems
  refine wpAny_bind (wpAny_seqItems hS rfl (wpAny_pure ?_))
  show wpAny _ _ (updateSeq s.heap.objs.size (fun _ => #[]) >>= fun _ => letGo (#[] : Array Value).toList.reverse >>= fun _ => Builtin.List.listExtendWith (.ref s.heap.objs.size) (.ref it) .none) _ _ _
  refine wpAny_bind (wpAny_updateSeq hS rfl ?_)
  have hS2 := Heap.get?_update_self (Obj.mapSeq (fun _ => (#[] : Array Value))) hS rfl
  have oth : ∀ b o, b ≠ s.heap.objs.size → s.heap.get? b = some o → ((s.heap.push { cls := .type "list", data := .seq #[] }).update s.heap.objs.size (Obj.mapSeq (fun _ => (#[] : Array Value)))).get? b = some o :=
    fun b o hb e => (Heap.get?_update_other _ _ (Ne.symm hb)).trans (Heap.get?_push_of_some _ e)
  refine wpAny_bind (wpAny_letGo ?_)
  refine extend (A := A.in1) hh s.heap.objs.size _ (hit.at fun o e => oth _ o hSi.symm e) (hl.at (oth _ · hSl.symm)) hne hn hSi hSl hS2 fun h' tk acc' c' hk hS' hacc => ?_
  exact ⟨rfl, hQ h' tk acc' c' (fun b o hb e => hk b o (Nat.ne_of_lt (Heap.lt_size e)) hb (oth b o (Nat.ne_of_lt (Heap.lt_size e)) e)) hS' hacc⟩
end
section
variable {X : Cx}
def tLstRev (K : PySem.W.Frag) (te : TE) : TE := fun σ H Q => te σ H fun v H1 => ∃ (a : Addr) (xs : List V), v = .ref a ∧ SqL K H1 a xs ∧ ∀ q, H1 q = none → Q (.ref q) (upd H1 q (.lst xs.reverse))
theorem _root_.Ca.pe_lstRev {e : Expr} {te : TE} {p p2 pos pos2 : Pos} (hc : X.calm = true) (hg : Gl X "list") (hm : X.mg "list" = none) (hg2 : Gl X "reversed") (hm2 : X.mg "reversed" = none) (he : PE X e te)
    (hs : starEach [e] X.env = (false, eval e X.env) :: starEach [] X.env := by rfl)
    (hs2 : starEach [.Call (.Name "reversed" p2) [e] [] pos2] X.env = (false, eval (.Call (.Name "reversed" p2) [e] [] pos2) X.env) :: starEach [] X.env := by rfl) :
    PE X (.Call (.Name "list" p) [.Call (.Name "reversed" p2) [e] [] pos2] [] pos) (tLstRev X.K te) := by
  refine ⟨fun pins s σ H Q I h => ?_⟩
  refine Call_ (ld_blt I hg hm (by decide +kernel : bootBuiltins "list" = some (.type "list")) (PyProof.Rows.callWith_type1 (args_cons (Call_ (ld_blt I hg2 hm2 PyProof.Rows.boot_reversed (PyProof.Rows.callWith_type1 (args_cons (thn (he.run pins s σ H _ I h) fun u s1 ⟨v, H1, I1, r1, q1⟩ => args_nil ?_) hs) hs rfl))) hs2) hs2 rfl))
  obtain ⟨a, xs, ev, hq, q⟩ := q1
  subst ev
  obtain rfl : u = Value.ref a := r1
  obtain ⟨its, rv, p', hz⟩ := I1.list hq
  refine call_reversed_list p'.isList (args_nil ?_)
  have k0 : ∀ b o, s1.heap.get? b = some o → (s1.heap.push (revObj a ((its.toArray.size : Int) - 1))).get? b = some o := fun b o e => Heap.get?_push_of_some _ e
  have I2 : Inv X pins σ H1 { s1 with heap := s1.heap.push (revObj a ((its.toArray.size : Int) - 1)) } := I1.kept (t' := s1.toks) k0
  obtain ⟨f0, f1, f2, f3, f4, f5⟩ := I1.fpOk (H' := H1) (b := s1.heap.objs.size) (Nat.le_refl _) (I1.hok.fresh (Nat.le_refl _))
  have hl := p'.isList
  obtain ⟨ol, hol, _⟩ := id hl
  have hne : a ≠ s1.heap.objs.size := Nat.ne_of_lt (Heap.lt_size hol)
  have hn : its.toArray.size ≤ sizeLine := by rw [List.size_toArray, ← rv.length]; exact hz
  have hrev : (s1.heap.push (revObj a ((its.toArray.size : Int) - 1))).IsRevIter s1.heap.objs.size a ((its.toArray.size : Int) - 1) := ⟨_, Heap.get?_push_size _ rfl, rfl, rfl⟩
  refine made (s := { s1 with heap := s1.heap.push (revObj a ((its.toArray.size : Int) - 1)) }) (I1.ok.hd hc) hrev (hl.push _) hne hn fun h' tk acc c' hk hD hi => ?_
  have hD0 := I2.hok.fresh (Nat.le_refl (s1.heap.push (revObj a ((its.toArray.size : Int) - 1))).objs.size)
  refine ⟨.ref (s1.heap.push (revObj a ((its.toArray.size : Int) - 1))).objs.size, upd H1 _ (.lst xs.reverse), ?_, rfl, q _ hD0⟩
  have old : ∀ b o, (s1.heap.push (revObj a ((its.toArray.size : Int) - 1))).get? b = some o → b ≠ (s1.heap.push (revObj a ((its.toArray.size : Int) - 1))).objs.size := fun b o e => Nat.ne_of_lt (Heap.lt_size e)
  refine I2.step (g' := s1.gens) (t' := tk) (d' := s1.drawn) (ch := [s1.heap.objs.size]) (fun b hb => ?_) (fun b o _ _ hc e _ => hk b o (fun z => hc (by simp [z])) e) (fun b o _ _ hc e _ => ⟨o.slots, hk b o (fun z => hc (by simp [z])) e⟩)
    (fun b o _ e n => by rw [upd_ne (old b o e)]; exact n) (fun b o hc e => ⟨o, hk b o (fun z => hc (by simp [z])) e⟩) (fun b ys e => by rw [upd_ne (ne_of_none e hD0)]; exact e) (fun b o u e => by rw [upd_ne (ne_of_none e hD0)]; exact e)
    (fun b ps e => ⟨#[], by rw [upd_ne (ne_of_none e hD0), e]; simp⟩) (fun m hm => ?_) (fun b u e => ?_) I1.bare
  · have e : b = s1.heap.objs.size := by simpa using hb
    subst e
    exact ⟨f3, f1, f4, f5⟩
  · obtain ⟨o, es, ep, ho, r⟩ := hm
    exact ⟨o, es, ep, hk _ o (Ne.symm f1) ho, r⟩
  · by_cases hb : b = (s1.heap.push (revObj a ((its.toArray.size : Int) - 1))).objs.size
    · subst hb
      rw [upd_same] at e
      cases e
      refine ⟨by rw [List.length_reverse]; exact hz, acc.toList, c', vals_rev rv hi, ?_⟩
      rw [Array.toArray_toList]
      exact hD
    · rw [upd_ne hb] at e
      refine (I2.hok b u e).stay (fun c v hc z => hk c v (fun y => ?_) z) (fun c z => by rw [upd_ne (ne_of_none z hD0)]; exact z) fun c ys z => by rw [upd_ne (ne_of_none z hD0)]; exact z
      rw [y] at hc
      rcases hc with hc | hc
      · rw [← hc, f0] at e
        cases e
      · rw [f0] at hc
        cases hc
end
end Ca.LsR
/-! dict(zip(a list of texts, a tuple)) -/
namespace Ca.ZipD
open PySem PySem.Spec
section
variable {prog : Program} {w : World} {A : Around} {E : Value → Shared → Prop} {s : Shared} {z TI TO T i1 i2 : Addr} {fp1 fp2 : List Addr} {n1 n2 i : Nat} {P1 P2 : Nat → Value → Prop} {St1 St2 : Nat → Heap → Prop} {f : Bool} {oT : Obj}
/-- the next pair, the tuple that was given out still there -/
theorem item {Q : Value → Shared → Prop} (S : ZipSep2 z TI TO i1 i2 fp1 fp2) (D1 : Draws prog w A i1 fp1 n1 P1 St1) (D2 : Draws prog w A i2 fp2 n2 P2 St2)
    (hz : IsZipHeld s.heap z TI TO T f) (hT : s.heap.get? T = some oT) (hTI : IsTupOf2 s.heap TI (.ref i1) (.ref i2)) (st1 : St1 i s.heap) (st2 : St2 i s.heap) (hlt1 : i < n1) (hlt2 : i < n2)
    (hQ : ∀ x1 x2 h' tk, P1 i x1 → P2 i x2 → IsZipHeld h' z TI TO T true → St1 (i + 1) h' → St2 (i + 1) h' → IsTupOf2 h' s.heap.objs.size x1 x2 → h'.objs.size = s.heap.objs.size + 1 →
      (∀ c o, c ≠ z → c ≠ i1 → c ≠ i2 → s.heap.get? c = some o → h'.get? c = some o) → Q (.ref s.heap.objs.size) { s with heap := h', toks := tk }) :
    wpAny (model prog w) A (Builtin.«zip.__next__» ⟨[.ref z], []⟩) (fun fin s' => ∃ v, fin = .done (.ret v) ∧ Q v s') E s := by
  obtain ⟨hp, g, d, tk0, os⟩ := s
  show wpAny _ _ (field (.ref z) 2 >>= _) _ _ _
  refine wpAny_bind (wpAny_field hz rfl (x := .bool false) rfl ?_)
  show wpAny _ _ (field (.ref z) 3 >>= _) _ _ _
  refine wpAny_bind (wpAny_field hz rfl (x := .ref TI) rfl ?_)
  refine wpAny_bind (wpAny_seqItems hTI rfl ?_)
  show wpAny _ _ (Builtin.SmallTypes.ownedTupleIsFree (.ref z) >>= _) _ _ _
  refine wpAny_bind (wpAny_tupleHeld_zip hz hT fun g0 hz0 hs0 => ?_)
  replace hz0 : IsZipHeld g0 z TI TO T true := hz0
  replace hs0 : Heap.SameBut z hp g0 := hs0
  simp only [Bool.false_eq_true, if_false]
  refine wpAny_bind ?_
  rw [← Array.forIn_toList]
  simp only [List.forIn_cons, List.forIn_nil]
  refine wpAny_bind (wpAny_bind (wpAny_holding ?_))
  show wpAny _ _ (Builtin.SmallTypes.nextOf (.ref i1) >>= _) _ _ ⟨g0, g, d, tk0, os⟩
  refine wpAny_bind (D1.item i _ _ _ hlt1 (D1.over st1 hs0 S.zf1) fun x1 p1 tk1 hx1 sn1 hp1 => wpAny_pure ?_)
  replace hp1 : Heap.SameBut i1 g0 p1 := hp1
  refine wpAny_pure ?_
  refine wpAny_bind (wpAny_bind (wpAny_holding ?_))
  show wpAny _ _ (Builtin.SmallTypes.nextOf (.ref i2) >>= _) _ _ ⟨p1, g, d, tk1, os⟩
  refine wpAny_bind (D2.item i _ _ _ hlt2 (D2.over (D2.over st2 hs0 S.zf2) hp1 S.sep1_2) fun x2 p2 tk2 hx2 sn2 hp2 => wpAny_pure ?_)
  replace hp2 : Heap.SameBut i2 p1 p2 := hp2
  refine wpAny_pure (wpAny_pure ?_)
  show wpAny _ _ (newTuple [x1, x2] >>= _) _ _ ⟨p2, g, d, tk2, os⟩
  refine wpAny_bind (wpAny_newTuple ?_)
  have hsz : p2.objs.size = hp.objs.size := by rw [hp2.1, hp1.1, hs0.1]
  have hz2 : IsZipHeld p2 z TI TO T true := hp2.extBut _ _ S.zi2 (hp1.extBut _ _ S.zi1 hz0)
  have hk : ∀ c o, c ≠ z → c ≠ i1 → c ≠ i2 → hp.get? c = some o → p2.get? c = some o := fun c o c0 c1 c2 e => hp2.extBut _ _ c2 (hp1.extBut _ _ c1 (hs0.extBut _ _ c0 e))
  have up : ∀ c o, p2.get? c = some o → (p2.push { cls := .type "tuple", data := .seq #[x1, x2] }).get? c = some o := fun c o e => Heap.get?_push_of_some _ e
  refine wpAny_pure ⟨_, rfl, ?_⟩
  show Q (.ref p2.objs.size) _
  have hn : IsTupOf2 (p2.push { cls := .type "tuple", data := .seq #[x1, x2] }) p2.objs.size x1 x2 := Heap.get?_push_size _ rfl
  have hn2 : (p2.push { cls := .type "tuple", data := .seq #[x1, x2] }).objs.size = p2.objs.size + 1 := Heap.size_push ..
  rw [hsz] at hn hn2 ⊢
  exact hQ x1 x2 _ tk2 hx1 hx2 (up _ _ hz2) (D1.frame _ _ _ (D1.over sn1 hp2 S.sep2_1) fun b _ o e => up b o e) (D2.frame _ _ _ sn2 fun b _ o e => up b o e) hn hn2 fun c o c0 c1 c2 e => up c o (hk c o c0 c1 c2 e)
theorem stop {Q : Fin → Shared → Prop} (S : ZipSep2 z TI TO i1 i2 fp1 fp2) (D1 : Draws prog w A i1 fp1 n1 P1 St1) (D2 : Draws prog w A i2 fp2 n2 P2 St2)
    (hz : IsZipHeld s.heap z TI TO T f) (hT : s.heap.get? T = some oT) (hTI : IsTupOf2 s.heap TI (.ref i1) (.ref i2)) (st1 : St1 n1 s.heap) (he : n1 ≤ n2)
    (hE : ∀ h' e, (∀ c o, c ≠ z → c ≠ i1 → c ≠ i2 → s.heap.get? c = some o → h'.get? c = some o) → (∃ o, h'.get? e = some o ∧ o.cls = .type "StopIteration") → E (.ref e) { s with heap := h' }) :
    wpAny (model prog w) A (Builtin.«zip.__next__» ⟨[.ref z], []⟩) Q E s := by
  obtain ⟨hp, g, d, tk0, os⟩ := s
  show wpAny _ _ (field (.ref z) 2 >>= _) _ _ _
  refine wpAny_bind (wpAny_field hz rfl (x := .bool false) rfl ?_)
  show wpAny _ _ (field (.ref z) 3 >>= _) _ _ _
  refine wpAny_bind (wpAny_field hz rfl (x := .ref TI) rfl ?_)
  refine wpAny_bind (wpAny_seqItems hTI rfl ?_)
  show wpAny _ _ (Builtin.SmallTypes.ownedTupleIsFree (.ref z) >>= _) _ _ _
  refine wpAny_bind (wpAny_tupleHeld_zip hz hT fun g0 hz0 hs0 => ?_)
  replace hs0 : Heap.SameBut z hp g0 := hs0
  simp only [Bool.false_eq_true, if_false]
  refine wpAny_bind ?_
  rw [← Array.forIn_toList]
  simp only [List.forIn_cons, List.forIn_nil]
  refine wpAny_bind (wpAny_bind (wpAny_holding ?_))
  show wpAny _ _ (Builtin.SmallTypes.nextOf (.ref i1) >>= _) _ _ ⟨g0, g, d, tk0, os⟩
  refine wpAny_bind (D1.done ⟨g0, g, d, tk0, os⟩ _ _ (D1.over st1 hs0 S.zf1) fun q e hq he => ?_)
  replace hq : Heap.ExtBut i1 g0 q := hq
  exact hE q e (fun c o c0 c1 _ x => hq _ _ c1 (hs0.extBut _ _ c0 x)) he
theorem nextItem {Q : Option Value → Shared → Prop} (S : ZipSep2 z TI TO i1 i2 fp1 fp2) (D1 : Draws prog w A.in1 i1 fp1 n1 P1 St1) (D2 : Draws prog w A.in1 i2 fp2 n2 P2 St2)
    (hz : IsZipHeld s.heap z TI TO T f) (hT : s.heap.get? T = some oT) (hTI : IsTupOf2 s.heap TI (.ref i1) (.ref i2)) (st1 : St1 i s.heap) (st2 : St2 i s.heap) (hlt1 : i < n1) (hlt2 : i < n2)
    (hQ : ∀ x1 x2 h' tk, P1 i x1 → P2 i x2 → IsZipHeld h' z TI TO T true → St1 (i + 1) h' → St2 (i + 1) h' → IsTupOf2 h' s.heap.objs.size x1 x2 → h'.objs.size = s.heap.objs.size + 1 →
      (∀ c o, c ≠ z → c ≠ i1 → c ≠ i2 → s.heap.get? c = some o → h'.get? c = some o) → Q (some (.ref s.heap.objs.size)) { s with heap := h', toks := tk }) :
    wpAny (model prog w) A (pyNext (.ref z)) Q E s := by
  have hTy : s.TypeIs (.ref z) "zip" := ⟨_, hz, rfl⟩
  unfold pyNext
  exact wpAny_bind (wpAny_attempt (wpAny_callSpecial?_slot (name := Str.ofString "__next__") hTy F.slot_zip_next
    (wpAny_call_entry F.slot_zip_next hTy F.entry_zip_next
      (item S D1 D2 hz hT hTI st1 st2 hlt1 hlt2 fun x1 x2 h' tk y1 y2 b1 b2 b3 b4 b5 b6 => wpAny_pure (hQ x1 x2 h' tk y1 y2 b1 b2 b3 b4 b5 b6)) (F.args_zip_next_1 _))))
theorem nextStop {Q : Option Value → Shared → Prop} (S : ZipSep2 z TI TO i1 i2 fp1 fp2) (D1 : Draws prog w A.in1 i1 fp1 n1 P1 St1) (D2 : Draws prog w A.in1 i2 fp2 n2 P2 St2)
    (hz : IsZipHeld s.heap z TI TO T f) (hT : s.heap.get? T = some oT) (hTI : IsTupOf2 s.heap TI (.ref i1) (.ref i2)) (st1 : St1 n1 s.heap) (he : n1 ≤ n2)
    (hQ : ∀ h', (∀ c o, c ≠ z → c ≠ i1 → c ≠ i2 → s.heap.get? c = some o → h'.get? c = some o) → Q none { s with heap := h' }) : wpAny (model prog w) A (pyNext (.ref z)) Q E s := by
  have hTy : s.TypeIs (.ref z) "zip" := ⟨_, hz, rfl⟩
  unfold pyNext
  refine wpAny_bind (wpAny_attempt (wpAny_callSpecial?_slot (name := Str.ofString "__next__") hTy F.slot_zip_next
    (wpAny_call_entry F.slot_zip_next hTy F.entry_zip_next (stop S D1 D2 hz hT hTI st1 he fun h' e hk hc => ?_) (F.args_zip_next_1 _))))
  obtain ⟨o, ho, hc⟩ := hc
  refine wpAny_bind (wpAny_isInstance (T := "StopIteration") (b := true) ⟨o, ho, hc⟩ isSubtype_stop ?_)
  exact wpAny_pure (hQ _ hk)
end
section
variable {prog : Program} {w : World}
/-- what dict(..) may ask of a zip over two makers of the same number of items -/
theorem arg (z TI TO i1 i2 : Addr) (fp1 fp2 : List Addr) (n : Nat) (P1 P2 : Nat → Value → Prop) (St1 St2 : Nat → Heap → Prop) (S : ZipSep2 z TI TO i1 i2 fp1 fp2) (hTI1 : TI ∉ fp1) (hTI2 : TI ∉ fp2)
    (D1 : ∀ A : Around, A.handled = none → Draws prog w A i1 fp1 n P1 St1) (D2 : ∀ A : Around, A.handled = none → Draws prog w A i2 fp2 n P2 St2)
    (A0 : Around) (hA0 : A0.handled = none) (there : ∀ h, St1 0 h → St2 0 h → ∀ b ∈ fp1 ++ fp2, ∃ o, h.get? b = some o) :
    PairArg prog w "zip" z (z :: TI :: TO :: (fp1 ++ fp2)) [z, TO, i1, i2] n (fun i k v => P1 i k ∧ P2 i v)
      (fun h => IsZip h z TI TO .none ∧ IsTupOf2 h TI (.ref i1) (.ref i2) ∧ (∃ a b, IsTupOf2 h TO a b) ∧ St1 0 h ∧ St2 0 h) where
  type := fun s ok => ⟨_, ok.1, rfl⟩
  notDict := by decide
  keep := fun h h' ok hk => by
    obtain ⟨hz, hTI, ⟨a, b, hTO⟩, h1, h2⟩ := ok
    exact ⟨hk _ _ hz, hk _ _ hTI, ⟨a, b, hk _ _ hTO⟩, (D1 A0 hA0).frame _ _ _ h1 fun b _ o e => hk b o e, (D2 A0 hA0).frame _ _ _ h2 fun b _ o e => hk b o e⟩
  there := fun h ok b hb => by
    obtain ⟨hz, hTI, ⟨a, c, hTO⟩, h1, h2⟩ := ok
    rcases List.mem_cons.mp hb with rfl | hb
    · exact ⟨_, hz⟩
    · rcases List.mem_cons.mp hb with rfl | hb
      · exact ⟨_, hTI⟩
      · rcases List.mem_cons.mp hb with rfl | hb
        · exact ⟨_, hTO⟩
        · exact there h h1 h2 b hb
  sub := fun b hb => by
    have m1 := S.mem1
    have m2 := S.mem2
    simp only [List.mem_cons, List.not_mem_nil, or_false] at hb
    simp only [List.mem_cons, List.mem_append]
    rcases hb with rfl | rfl | rfl | rfl
    · exact .inl rfl
    · exact .inr (.inr (.inl rfl))
    · exact .inr (.inr (.inr (.inl m1)))
    · exact .inr (.inr (.inr (.inr m2)))
  noKeys := fun A s Q E hA ok h => getAttrOr_miss_zip ok.1 rfl rfl rfl zip_no_keys (by decide +kernel) hA h
  iter := fun A s d Q E hA ok hd hdf h => by
    obtain ⟨hz, hTI, ⟨a, b, hTO⟩, h1, h2⟩ := ok
    simp only [List.mem_cons, List.mem_append, not_or] at hdf
    obtain ⟨dz, dTI, dTO, d1, d2⟩ := hdf
    have di1 : d ≠ i1 := fun e => d1 (e ▸ S.mem1)
    have di2 : d ≠ i2 := fun e => d2 (e ▸ S.mem2)
    refine wpAny_pyIter_zip hz (h z [z, TO, i1, i2] (fun i h => IsTupOf2 h TI (.ref i1) (.ref i2) ∧ St1 i h ∧ St2 i h ∧
      ((IsZip h z TI TO .none ∧ ∃ a b, IsTupOf2 h TO a b) ∨ ∃ T f oT, IsZipHeld h z TI TO T f ∧ h.get? T = some oT ∧ T ≠ z ∧ T ≠ i1 ∧ T ≠ i2 ∧ T ≠ d)) s.heap s.toks ?_
      ⟨hTI, h1, h2, .inl ⟨hz, a, b, hTO⟩⟩ (fun _ _ e => e) fun b hb => .inl hb)
    exact {
      off := fun hm => by
        simp only [List.mem_cons, List.not_mem_nil, or_false] at hm
        rcases hm with e | e | e | e
        · exact dz e
        · exact dTO e
        · exact di1 e
        · exact di2 e
      frame := fun i h₁ h₂ st hk => by
        obtain ⟨hTI, h1, h2, hz⟩ := st
        refine ⟨hk _ _ (Ne.symm dTI) hTI, (D1 A hA).frame _ _ _ h1 fun b hb o e => hk b o (fun z => d1 (z ▸ hb)) e, (D2 A hA).frame _ _ _ h2 fun b hb o e => hk b o (fun z => d2 (z ▸ hb)) e, ?_⟩
        rcases hz with ⟨hz, a, b, hTO⟩ | ⟨T, f, oT, hz, hT, r1, r2, r3, r4⟩
        · exact .inl ⟨hk _ _ (Ne.symm dz) hz, a, b, hk _ _ (Ne.symm dTO) hTO⟩
        · exact .inr ⟨T, f, oT, hk _ _ (Ne.symm dz) hz, hk _ _ r4 hT, r1, r2, r3, r4⟩
      item := fun i s₁ Q₁ E₁ hi st hds hQ => by
        obtain ⟨hTI, h1, h2, hz⟩ := st
        have lt : ∀ {c o}, s₁.heap.get? c = some o → s₁.heap.objs.size ≠ c := fun e => Nat.ne_of_gt (Heap.lt_size e)
        have n1 : s₁.heap.objs.size ≠ i1 := let ⟨_, e⟩ := (D1 A hA).live _ _ h1; lt e
        have n2 : s₁.heap.objs.size ≠ i2 := let ⟨_, e⟩ := (D2 A hA).live _ _ h2; lt e
        rcases hz with ⟨hz, a, b, hTO⟩ | ⟨T, f, oT, hz, hT, r1, r2, r3, r4⟩
        · refine wpAny_pyNext_zipD2_item S (D1 A.in1 hA) (D2 A.in1 hA) hz hTI hTO h1 h2 hi hi fun x1 x2 h' tk y1 y2 a1 a2 a3 a4 a5 a6 hk => ?_
          exact hQ s₁.heap.objs.size _ _ h' tk ⟨y1, y2⟩ (.inl ⟨_, a5, rfl, _, rfl⟩)
            ⟨hk _ _ S.TIz S.TITO S.TIi1 S.TIi2 hTI, a3, a4, .inr ⟨s₁.heap.objs.size, false, _, a1, a5, lt hz, n1, n2, Nat.ne_of_gt hds⟩⟩
            fun c o hc e => hk c o (fun x => hc (by simp [x])) (fun x => hc (by simp [x])) (fun x => hc (by simp [x])) (fun x => hc (by simp [x])) e
        · refine nextItem S (D1 A.in1 hA) (D2 A.in1 hA) hz hT hTI h1 h2 hi hi fun x1 x2 h' tk y1 y2 a1 a3 a4 a5 a6 hk => ?_
          exact hQ s₁.heap.objs.size _ _ h' tk ⟨y1, y2⟩ (.inl ⟨_, a5, rfl, _, rfl⟩)
            ⟨hk _ _ S.TIz S.TIi1 S.TIi2 hTI, a3, a4, .inr ⟨T, true, oT, a1, hk _ _ r1 r2 r3 hT, r1, r2, r3, r4⟩⟩
            fun c o hc e => hk c o (fun x => hc (by simp [x])) (fun x => hc (by simp [x])) (fun x => hc (by simp [x])) e
      done := fun s₁ Q₁ E₁ st hQ => by
        obtain ⟨hTI, h1, h2, hz⟩ := st
        rcases hz with ⟨hz, a, b, hTO⟩ | ⟨T, f, oT, hz, hT, r1, r2, r3, r4⟩
        · exact wpAny_pyNext_zipD2_end S (D1 A.in1 hA) (D2 A.in1 hA) hz hTI hTO h1 h2 (Nat.le_refl _) (Nat.le_refl _) (.inl rfl) fun h' tk hk => hQ h' tk fun c o hc e => hk c o (fun x => hc (by simp [x])) (fun x => hc (by simp [x])) (fun x => hc (by simp [x])) (fun x => hc (by simp [x])) e
        · exact nextStop S (D1 A.in1 hA) (D2 A.in1 hA) hz hT hTI h1 (Nat.le_refl _) fun h' hk => hQ h' s₁.toks fun c o hc e => hk c o (fun x => hc (by simp [x])) (fun x => hc (by simp [x])) (fun x => hc (by simp [x])) e }
end
section
open L2 PyProof.Rows
variable {X : Cx}
def tDictZip (K : PySem.W.Frag) (ta : TA) : TE := fun σ H Q => ta σ H fun vs H1 => ∃ (a b : Addr) (ks : List Str) (xs : List V), vs = [.ref a, .ref b] ∧ SqL K H1 a (ks.map V.str) ∧ SqT K H1 b xs ∧ ks.length = xs.length ∧
  ∀ p, H1 p = none → Q (.ref p) (upd H1 p (.dK (mergeK [] ((ks.zip xs).map fun q => (.inr q.1, q.2)))))
theorem two_not {n x y : Nat} (h1 : n ≠ x) (h2 : n ≠ y) : n ∉ [x, y] := fun h => by
  rcases List.mem_cons.mp h with e | h
  · exact h1 e
  · rcases List.mem_cons.mp h with e | h
    · exact h2 e
    · exact nomatch h
theorem sep (n a b : Nat) (la : a < n) (lb : b < n) : ZipSep2 (n + 4) (n + 2) (n + 3) n (n + 1) [n, a] [n + 1, b] where
  TIz := (by omega : (n + 2 : Nat) ≠ n + 4)
  TOz := (by omega : (n + 3 : Nat) ≠ n + 4)
  TITO := (by omega : (n + 2 : Nat) ≠ n + 3)
  TIi1 := (by omega : (n + 2 : Nat) ≠ n)
  mem1 := List.mem_cons_self
  zf1 := two_not (by omega) (by omega)
  Tf1 := two_not (by omega) (by omega)
  TIi2 := (by omega : (n + 2 : Nat) ≠ n + 1)
  mem2 := List.mem_cons_self
  zf2 := two_not (by omega) (by omega)
  Tf2 := two_not (by omega) (by omega)
  sep1_2 := two_not (by omega) (by omega)
  sep2_1 := two_not (by omega) (by omega)
theorem keys_vals : ∀ {ks : List Str} {xs : List V} {us ws : List Value}, Vals (ks.map V.str) us → Vals xs ws → ks.length = xs.length →
    ∃ prs : List (Key × Value), KV ((ks.zip xs).map fun q => (Sum.inr q.1, q.2)) prs ∧ prs.length = us.length ∧ prs.length = ws.length ∧ ∀ (i : Nat) (k v : Value), us[i]? = some k → ws[i]? = some v → ∃ kk : Key, prs[i]? = some (kk, v) ∧ keyIs kk k = true
  | [], [], _, _, .nil, .nil, _ => ⟨[], .nil, rfl, rfl, fun i k v h _ => by simp at h⟩
  | k :: ks, x :: xs, _, _, .cons r1 t1, .cons r2 t2, hl => by
    obtain ⟨prs, h1, h2, h3, h4⟩ := keys_vals t1 t2 (by simpa using hl)
    obtain ⟨t, rfl⟩ := r1
    refine ⟨(.inr k, _) :: prs, .cons ⟨rfl, r2⟩ h1, congrArg (· + 1) h2, congrArg (· + 1) h3, fun i k' v e1 e2 => ?_⟩
    cases i with
    | zero =>
      simp at e1 e2
      subst e1 e2
      exact ⟨_, rfl, keyIs_str k t⟩
    | succ i => exact h4 i k' v (by simpa using e1) (by simpa using e2)
  | [], _ :: _, _, _, _, _, hl => by simp at hl
  | _ :: _, [], _, _, _, _, hl => by simp at hl
theorem _root_.Ca.pe_dictZip {e e2 : Expr} {ta : TA} {p p2 pos pos2 : Pos} (hc : X.calm = true) (hg : Gl X "dict") (hm : X.mg "dict" = none) (hg2 : Gl X "zip") (hm2 : X.mg "zip" = none) (ha : PA X [e, e2] ta)
    (hs : starEach [e, e2] X.env = (false, eval e X.env) :: starEach [e2] X.env := by rfl) (hpl : (backTo pos2 (starEach [e2] X.env)).any (·.1) = false := by rfl)
    (hs2 : starEach [.Call (.Name "zip" p2) [e, e2] [] pos2] X.env = (false, eval (.Call (.Name "zip" p2) [e, e2] [] pos2) X.env) :: starEach [] X.env := by rfl) :
    PE X (.Call (.Name "dict" p) [.Call (.Name "zip" p2) [e, e2] [] pos2] [] pos) (tDictZip X.K ta) := by
  refine ⟨fun pins s σ H Q I h => ?_⟩
  refine Call_ (ld_blt I hg hm (by decide +kernel : bootBuiltins "dict" = some (.type "dict")) (PyProof.Rows.callWith_type1 (args_cons (Call_ (ld_blt I hg2 hm2 PyProof.Rows.boot_zip (PyProof.Rows.callWith_type1 (thn (ha.run pos2 pins s σ H _ I h) fun us s1 ⟨vs, H1, I1, r1, q1⟩ => ?_) hs hpl))) hs2) hs2 rfl))
  obtain ⟨a, b, ks, xs, ex, hqx, hqy, hl, q⟩ := q1
  subst ex
  cases r1 with
  | cons r rr =>
    cases rr with
    | cons r' rr =>
      cases rr
      cases r
      cases r'
      obtain ⟨its, rv, p1, hz1⟩ := I1.list hqx
      obtain ⟨its2, rv2, p2, hz2⟩ := I1.tuple hqy
      have la : a < s1.heap.objs.size := p1.lt
      have lb : b < s1.heap.objs.size := p2.lt
      have l1 := rv.length
      have l2 := rv2.length
      rw [List.length_map] at l1 hz1
      refine zip_begins2 (begins_list a its.toArray) (begins_tuple b its2.toArray) p1.isList p2 fun h' hz hTI hTO h1 h2 hsz hk => args_nil ?_
      have I2 : Inv X pins σ H1 { s1 with heap := h' } := I1.kept (t' := s1.toks) hk
      have hh : X.A.handled = none := I1.ok.hd hc
      have S : ZipSep2 (s1.heap.objs.size + 4) (s1.heap.objs.size + 2) (s1.heap.objs.size + 3) s1.heap.objs.size (s1.heap.objs.size + 1) [s1.heap.objs.size, a] [s1.heap.objs.size + 1, b] := by
        exact sep _ _ _ la lb
      have es : its2.toArray.size = its.toArray.size := by simp only [List.size_toArray]; omega
      have nel : a ≠ s1.heap.objs.size := Nat.ne_of_lt la
      have net : b ≠ s1.heap.objs.size + 1 := Nat.ne_of_lt (Nat.lt_succ_of_lt lb)
      have P := arg (prog := X.prog) (w := X.w) (s1.heap.objs.size + 4) (s1.heap.objs.size + 2) (s1.heap.objs.size + 3) s1.heap.objs.size (s1.heap.objs.size + 1) [s1.heap.objs.size, a] [s1.heap.objs.size + 1, b] its.toArray.size _ _ _ _ S
        (two_not (n := s1.heap.objs.size + 2) (x := s1.heap.objs.size) (y := a) (by omega) (Nat.ne_of_gt (Nat.lt_add_right 2 la))) (two_not (n := s1.heap.objs.size + 2) (x := s1.heap.objs.size + 1) (y := b) (by omega) (Nat.ne_of_gt (Nat.lt_add_right 2 lb)))
        (fun A hA => Draws.list hA s1.heap.objs.size a nel its.toArray) (fun A hA => es ▸ Draws.tuple hA (s1.heap.objs.size + 1) b net its2.toArray) X.A hh (fun h st1 st2 c hcm => by
          obtain ⟨⟨o1, w1, _⟩, o2, w2, _⟩ := st1
          obtain ⟨⟨o3, w3, _⟩, o4, w4, _⟩ := st2
          rcases List.mem_cons.mp hcm with rfl | hcm
          · exact ⟨_, w1⟩
          · rcases List.mem_cons.mp hcm with rfl | hcm
            · exact ⟨_, w2⟩
            · rcases List.mem_cons.mp hcm with rfl | hcm
              · exact ⟨_, w3⟩
              · rcases List.mem_cons.mp hcm with rfl | hcm
                · exact ⟨_, w4⟩
                · exact nomatch hcm)
      obtain ⟨prs, k1, k2, k3, k4⟩ := keys_vals rv rv2 hl
      have hlen : ((ks.zip xs).map fun q => ((Sum.inr q.1 : Key), q.2)).length = ks.length := by rw [List.length_map, List.length_zip]; omega
      have hml : (mergeK [] ((ks.zip xs).map fun q => ((Sum.inr q.1 : Key), q.2))).length ≤ sizeLine := by
        refine Nat.le_trans (length_mergeK _ []) ?_
        rw [List.length_nil, Nat.zero_add, hlen]
        exact hz1
      have hD0 : H1 h'.objs.size = none := I2.hok.fresh (Nat.le_refl _)
      refine PySem.call_dict_pairs (s := { s1 with heap := h' }) (knd := mixKind X.prog X.w) (kvs := prs) P hh ⟨hz, hTI, ⟨_, _, hTO⟩, ⟨⟨_, h1, rfl, rfl⟩, p1.isList.at fun o e => hk _ o e⟩, ⟨⟨_, h2, rfl, rfl⟩, (let ⟨o, ho, r⟩ := p2; ⟨o, hk _ _ ho, r⟩)⟩⟩
        ⟨by rw [k2, List.size_toArray], fun i key v ⟨e1, e2⟩ => ?_⟩ (by rw [List.size_toArray, ← l1]; exact hz1) fun h'' tk hd' hkk => ?_
      · obtain ⟨kk, w1, w2⟩ := k4 i key v (by simpa using e1) (by simpa using e2)
        exact ⟨kk, w1, w2⟩
      · refine ⟨.ref h'.objs.size, upd H1 h'.objs.size (.dK (mergeK [] ((ks.zip xs).map fun q => (.inr q.1, q.2)))), ?_, rfl, q _ hD0⟩
        have old : ∀ b o, h'.get? b = some o → b ≠ h'.objs.size := fun b o e => Nat.ne_of_lt (Heap.lt_size e)
        have ge : ∀ c ∈ [s1.heap.objs.size + 4, s1.heap.objs.size + 3, s1.heap.objs.size, s1.heap.objs.size + 1], s1.heap.objs.size ≤ c := fun c hcm => by
          simp only [List.mem_cons, List.not_mem_nil, or_false] at hcm
          rcases hcm with e | e | e | e
          · rw [e]; exact Nat.le_add_right _ _
          · rw [e]; exact Nat.le_add_right _ _
          · rw [e]; exact Nat.le_refl _
          · rw [e]; exact Nat.le_add_right _ _
        refine I2.step (g' := s1.gens) (t' := tk) (d' := s1.drawn) (ch := [s1.heap.objs.size + 4, s1.heap.objs.size + 3, s1.heap.objs.size, s1.heap.objs.size + 1]) (fun c hcm => ?_) (fun c o _ _ hc e _ => hkk c o hc e) (fun c o _ _ hc e _ => ⟨o.slots, hkk c o hc e⟩)
          (fun c o _ e n => by rw [upd_ne (old c o e)]; exact n) (fun c o hc e => ⟨o, hkk c o hc e⟩) (fun c ys e => by rw [upd_ne (ne_of_none e hD0)]; exact e) (fun c o u e => by rw [upd_ne (ne_of_none e hD0)]; exact e)
          (fun c ps e => ⟨#[], by rw [upd_ne (ne_of_none e hD0), e]; simp⟩) (fun m hm => ?_) (fun c u e => ?_) I1.bare
        · obtain ⟨f0, f1, f2, f3, f4, f5⟩ := I1.fpOk (H' := H1) (b := c) (ge c hcm) (I1.hok.fresh (ge c hcm))
          exact ⟨f3, f1, f4, f5⟩
        · obtain ⟨o, es', ep, ho, r⟩ := hm
          refine ⟨o, es', ep, hkk _ o (fun hcm => ?_) ho, r⟩
          obtain ⟨f0, f1, f2, f3, f4, f5⟩ := I1.fpOk (H' := H1) (b := X.env.locals) (ge _ hcm) (I1.hok.fresh (ge _ hcm))
          exact f1 rfl
        · by_cases hb : c = h'.objs.size
          · subst hb
            rw [upd_same] at e
            cases e
            have hm : (h'.objs.size == sysModules) = false := beq_eq_false_iff_ne.mpr (Nat.ne_of_gt (Nat.lt_of_lt_of_le I1.big (by rw [hsz]; exact Nat.le_add_right _ _)))
            exact ⟨hml, hm, merged [] prs, KV.merge k1 .nil, hd'⟩
          · rw [upd_ne hb] at e
            have hfr : ∀ x ∈ [s1.heap.objs.size + 4, s1.heap.objs.size + 3, s1.heap.objs.size, s1.heap.objs.size + 1], H1 x = none := fun x hx => I1.hok.fresh (ge x hx)
            refine (I2.hok c u e).stay (fun x v hc z => hkk x v (fun y => ?_) z) (fun x z => by rw [upd_ne (ne_of_none z hD0)]; exact z) fun x ys z => by rw [upd_ne (ne_of_none z hD0)]; exact z
            have hx := hfr x y
            rcases hc with hc | hc
            · rw [hc, e] at hx
              cases hx
            · rw [hx] at hc
              cases hc
end
end Ca.ZipD
/-! sorted(a list of tuples of distinct texts) -/
namespace Ca.SortT
open PySem PyProof.Rows
def rank (L : List (List Nat)) (y : List Nat) : Nat := L.countP fun z => decide (z < y)
theorem countP_lt {α : Type} {p q : α → Bool} : ∀ {L : List α}, (∀ x ∈ L, p x = true → q x = true) → (∃ x ∈ L, p x = false ∧ q x = true) → L.countP p < L.countP q
  | [], _, ⟨_, h, _⟩ => nomatch h
  | a :: r, h, ⟨x, hx, h1, h2⟩ => by
    have hr : r.countP p ≤ r.countP q := List.countP_mono_left fun y hy => h y (List.mem_cons_of_mem _ hy)
    rw [List.countP_cons, List.countP_cons]
    rcases List.mem_cons.mp hx with rfl | hx
    · rw [h1, h2]
      simp only [Bool.false_eq_true, if_false, if_true]
      omega
    · have ih := countP_lt (L := r) (fun y hy => h y (List.mem_cons_of_mem _ hy)) ⟨x, hx, h1, h2⟩
      have ha := h a List.mem_cons_self
      cases e : p a with
      | false => cases q a <;> simp <;> omega
      | true => rw [ha e]; simp; omega
theorem rank_lt {L : List (List Nat)} {y z : List Nat} (hy : y ∈ L) : decide (y < z) = decide ((rank L y : Int) < (rank L z : Int)) := by
  by_cases h : y < z
  · have h1 : rank L y < rank L z := countP_lt (fun x _ hx => decide_eq_true (List.lt_trans (of_decide_eq_true hx) h)) ⟨y, hy, decide_eq_false (List.lt_irrefl _), decide_eq_true h⟩
    rw [decide_eq_true h, decide_eq_true (by omega)]
  · have h1 : rank L z ≤ rank L y := List.countP_mono_left fun x _ hx => by
      refine decide_eq_true (Classical.byContradiction fun n => h ?_)
      exact List.lt_of_le_of_lt (List.not_lt.mp n) (of_decide_eq_true hx)
    rw [decide_eq_false h, decide_eq_false (by omega)]
def txt (h : Heap) (v : Value) : Str := DT.txOf (DT.seqAt0 h (DT.refOf (some v)))
def PairT (h : Heap) (v : Value) (y : Str) : Prop := ∃ (a : Addr) (t : Tok) (u : Value), v = .ref a ∧ IsTup h a #[.str y t, u]
theorem PairT.tx {h : Heap} {v : Value} {y : Str} (x : PairT h v y) : txt h v = y := by
  obtain ⟨a, t, u, rfl, h1⟩ := x
  show DT.txOf (DT.seqAt0 h a) = y
  rw [DT.seqAt0_of h1]
  rfl
theorem PairT.keeps {h h' : Heap} {v : Value} {y : Str} (x : PairT h v y) (k : ∀ b o, h.get? b = some o → o.cls = .type "tuple" → h'.get? b = some o) : PairT h' v y := by
  obtain ⟨a, t, u, e, ⟨o, ho, hc, r⟩⟩ := x
  exact ⟨a, t, u, e, ⟨o, k _ _ ho hc, hc, r⟩⟩
section
variable {prog : Program} {w : World} {A : Around} {E : Value → Shared → Prop} {s : Shared}
theorem firsts_of {h : Heap} : ∀ vs : List Value, (∀ v ∈ vs, ∃ y, PairT h v y) → ∃ fs : List Value, PySem.W.KatTups h vs fs ∧ fs.length = vs.length ∧ ∀ f ∈ fs, ∃ (y : Str) (t : Tok), f = Value.str y t
  | [], _ => ⟨[], PySem.W.KatTups.nil, rfl, fun f hf => by simp at hf⟩
  | v :: vs, x => by
    obtain ⟨fs, k, hl, hi⟩ := firsts_of vs fun u hu => x u (List.mem_cons_of_mem _ hu)
    obtain ⟨y, a, t, u, rfl, ⟨o, ho, hc, n, hd⟩⟩ := x v (List.mem_cons_self ..)
    refine ⟨.str y t :: fs, PySem.W.KatTups.cons ho hc hd rfl k, by rw [List.length_cons, List.length_cons, hl], fun f hf => ?_⟩
    rcases List.mem_cons.mp hf with rfl | hf
    · exact ⟨y, t, rfl⟩
    · exact hi f hf
theorem kind_ts {vs : List Value} {ρ : Str → Int} (h2 : 2 ≤ vs.length) (x : ∀ v ∈ vs, ∃ y, PairT s.heap v y) (inj : ∀ v ∈ vs, ∀ u ∈ vs, txt s.heap v = txt s.heap u → v = u)
    (hρ : ∀ v ∈ vs, ∀ u ∈ vs, decide ((txt s.heap v).cps.toList < (txt s.heap u).cps.toList) = decide (ρ (txt s.heap v) < ρ (txt s.heap u))) (Q : SortKind → Shared → Prop)
    (h : ∀ κ, TS.Cmp prog w A s κ (pairsOf vs) (fun v => ρ (txt s.heap v)) → Q κ s) : wpAny (model prog w) A (keyKind' vs.toArray) Q E s := by
  obtain ⟨fs, k, hl, hi⟩ := firsts_of vs x
  have eb : (Value.type "str" != Value.type "tuple") = true := by first | rfl | decide
  refine PySem.W.kat_kind (T := Value.type "str") k (by omega) (fun f hf => ?_) rfl (h _ ?_)
  · obtain ⟨y, t, rfl⟩ := hi f hf
    exact PySem.W.Looks.of_pure rfl
  · rw [eb]
    intro p q hp hq Q' E' hQ
    rw [pairsOf_toList] at hp hq
    have mp := (mem_zip_self hp).2
    have mq := (mem_zip_self hq).2
    obtain ⟨y, py⟩ := x _ mp
    obtain ⟨z, pz⟩ := x _ mq
    have hr := hρ _ mp _ mq
    have hi' := inj _ mp _ mq
    have hQ' : Q' (decide (y.cps.toList < z.cps.toList)) s := by
      rw [py.tx, pz.tx] at hr
      rw [hr]
      have hQ2 : Q' (decide (ρ (txt s.heap p.1) < ρ (txt s.heap q.1))) s := hQ
      rw [py.tx, pz.tx] at hQ2
      exact hQ2
    rw [py.tx, pz.tx] at hi'
    obtain ⟨a, t, u, e1, it⟩ := py
    obtain ⟨a', t', u', e2, it'⟩ := pz
    rw [e1, e2]
    rw [e1, e2] at hi'
    by_cases e : y = z
    · have ea : a = a' := by
        have z0 := hi' e
        injection z0
      subst e ea
      obtain ⟨o, ho, hc, n, hd⟩ := it
      obtain ⟨o', ho', hc', n', hd'⟩ := it'
      rw [ho] at ho'
      cases ho'
      rw [hd] at hd'
      injection hd' with hd1 hd2
      have hu : t = t' ∧ u = u' := by
        have z1 := congrArg Array.toList hd1
        simp at z1
        exact z1
      obtain ⟨rfl, rfl⟩ := hu
      refine PySem.W.kat_lt ho hd ho hd ?_
      show PySem.W.KatLex prog w A true _ Q' [(Value.str y t, Value.str y t), (u, u)] 0 s
      have irr : decide (y.cps.toList < y.cps.toList) = false := decide_eq_false (List.lt_irrefl _)
      rw [irr] at hQ'
      refine PySem.W.kat_cons (SeqAt.EqAt.same (A := A) (s := s) (Value.str y t) prog w _ _ ?_)
      refine PySem.W.kat_go (fun _ => ?_) (fun e0 => nomatch e0)
      refine PySem.W.kat_yes (PySem.W.kat_cons (SeqAt.EqAt.same (A := A) (s := s) u prog w _ _ ?_))
      refine PySem.W.kat_go (fun _ => ?_) (fun e0 => nomatch e0)
      refine PySem.W.kat_yes (PySem.W.kat_nil ?_)
      have sz : decide ((#[Value.str y t, u] : Array Value).size < (#[Value.str y t, u] : Array Value).size) = false := decide_eq_false (Nat.lt_irrefl _)
      rw [sz]
      exact hQ'
    · obtain ⟨o, ho, hc, n, hd⟩ := it
      obtain ⟨o', ho', hc', n', hd'⟩ := it'
      refine PySem.W.kat_lt ho hd ho' hd' ?_
      show PySem.W.KatLex prog w A true _ Q' [(Value.str y t, Value.str z t'), (u, u')] 0 s
      refine PySem.W.kat_cons (wpAny_eqBool_str ?_)
      refine PySem.W.kat_go (fun e0 => absurd (of_decide_eq_true e0) e) (fun _ => ?_)
      exact PySem.W.kat_no (oneLt_str hQ')
/-- list.sort -/
theorem sort_ts {a : Addr} {vs : List Value} {n : Nat} {ρ : Str → Int} {P : PySem.Fin → Shared → Prop} (ho : s.heap.get? a = some (seqObj "list" vs.toArray n)) (h64 : vs.length < 64) (x : ∀ v ∈ vs, ∃ y, PairT s.heap v y)
    (inj : ∀ v ∈ vs, ∀ u ∈ vs, txt s.heap v = txt s.heap u → v = u) (hρ : ∀ v ∈ vs, ∀ u ∈ vs, decide ((txt s.heap v).cps.toList < (txt s.heap u).cps.toList) = decide (ρ (txt s.heap v) < ρ (txt s.heap u)))
    (h : ∀ out : Array Value, out.toList.Perm vs → P (.done (.ret .none)) { s with heap := sortedHeap s.heap a vs out }) :
    wpAny (model prog w) A (Builtin.«list.sort» ⟨[.ref a], []⟩) P E s := by
  have keep : ∀ b o, s.heap.get? b = some o → o.cls = .type "tuple" → (TS.midHeap s.heap a vs).get? b = some o := fun b o e hc => by
    refine TS.midHeap_old ?_ e
    rintro rfl
    rw [ho] at e
    have e' : seqObj "list" vs.toArray n = o := Option.some.inj e
    rw [← e'] at hc
    have c' : Value.type "list" = Value.type "tuple" := hc
    injection c' with c''
    exact absurd c'' (by decide)
  have tx : ∀ v ∈ vs, txt (TS.midHeap s.heap a vs) v = txt s.heap v := fun v hv => by
    obtain ⟨y, py⟩ := x v hv
    rw [py.tx, (py.keeps keep).tx]
  refine SK.plain_sort (r := fun v => ρ (txt (TS.midHeap s.heap a vs) v)) ho h64 (fun h2 Q hQ => ?_) fun ps out h1 h2 h3 => ?_
  · refine kind_ts (s := { s with heap := TS.midHeap s.heap a vs }) (ρ := ρ) h2 (fun v hv => ?_) (fun v hv u hu => ?_) (fun v hv u hu => ?_) Q hQ
    · obtain ⟨y, py⟩ := x v hv
      exact ⟨y, py.keeps keep⟩
    · show txt (TS.midHeap s.heap a vs) v = txt (TS.midHeap s.heap a vs) u → _
      rw [tx v hv, tx u hu]
      exact inj v hv u hu
    · show decide ((txt (TS.midHeap s.heap a vs) v).cps.toList < (txt (TS.midHeap s.heap a vs) u).cps.toList) = decide (ρ (txt (TS.midHeap s.heap a vs) v) < ρ (txt (TS.midHeap s.heap a vs) u))
      rw [tx v hv, tx u hu]
      exact hρ v hv u hu
  · obtain ⟨p, _⟩ := TS.out_rank (r := fun v => ρ (txt (TS.midHeap s.heap a vs) v)) h1 h2 h3
    exact h out p
/-- sorted(xs) of a list -/
theorem sorted_ts {l : Addr} {vs : List Value} {ρ : Str → Int} {Q : Value → Shared → Prop} (hl : s.heap.IsList l vs.toArray) (h64 : vs.length < 64) (x : ∀ v ∈ vs, ∃ y, PairT s.heap v y)
    (inj : ∀ v ∈ vs, ∀ u ∈ vs, txt s.heap v = txt s.heap u → v = u) (hρ : ∀ v ∈ vs, ∀ u ∈ vs, decide ((txt s.heap v).cps.toList < (txt s.heap u).cps.toList) = decide (ρ (txt s.heap v) < ρ (txt s.heap u)))
    (h : ∀ out : Array Value, out.toList.Perm vs → Q (.ref (s.heap.objs.size + 1)) { s with heap := sortedAll s.heap vs out }) :
    wpAny (model prog w) A (call (.builtin "sorted") [.ref l]) Q E s := by
  refine Calls.call_function_entry kind_sorted plain_sorted entry_sorted (args_sorted1 _) ?_
  unfold Builtin.«sorted»
  refine wpAny_bind (m := checkCount "sorted" 1 1 _) (wpAny_pure ?_)
  refine wpAny_bind (collect_list hl ?_ (by rw [sizeLine_eq]; omega))
  refine wpAny_bind (wpAny_newList ?_ (by rw [sizeLine_eq]; omega))
  have hsz : ((s.heap.push (seqObj "list" #[] 0)).update s.heap.objs.size (Obj.mapSeq (· ++ vs.toArray))).objs.size = s.heap.objs.size + 1 := by
    rw [Heap.size_update, size_push']
  have hoL : (((s.heap.push (seqObj "list" #[] 0)).update s.heap.objs.size (Obj.mapSeq (· ++ vs.toArray))).push (seqObj "list" vs.toArray 0)).get? (s.heap.objs.size + 1) = some (seqObj "list" vs.toArray 0) := by
    rw [← hsz]; exact Heap.get?_push_size _ rfl
  have keep : ∀ b o, s.heap.get? b = some o → o.cls = .type "tuple" → (((s.heap.push (seqObj "list" #[] 0)).update s.heap.objs.size (Obj.mapSeq (· ++ vs.toArray))).push (seqObj "list" vs.toArray 0)).get? b = some o := fun b o q _ => by
    have hlt : b < s.heap.objs.size := Heap.lt_size q
    rw [Heap.get?_push_ne _ _ _ (by rw [hsz]; exact Nat.ne_of_lt (Nat.lt_succ_of_lt hlt)), Heap.get?_update_ne _ _ _ _ (Nat.ne_of_lt hlt), Heap.get?_push_ne _ _ _ (Nat.ne_of_lt hlt)]
    exact q
  show wpAny _ _ _ _ _ { s with heap := ((s.heap.push (seqObj "list" #[] 0)).update s.heap.objs.size (Obj.mapSeq (· ++ vs.toArray))).push (seqObj "list" vs.toArray 0) }
  rw [hsz]
  have tx : ∀ v ∈ vs, txt (((s.heap.push (seqObj "list" #[] 0)).update s.heap.objs.size (Obj.mapSeq (· ++ vs.toArray))).push (seqObj "list" vs.toArray 0)) v = txt s.heap v := fun v hv => by
    obtain ⟨y, py⟩ := x v hv
    rw [py.tx, (py.keeps keep).tx]
  refine wpAny_bind (wpAny_holding (wpAny_call_entry slot_list_sort ⟨_, hoL, rfl⟩ entry_list_sort (sort_ts (s := { s with heap := ((s.heap.push (seqObj "list" #[] 0)).update s.heap.objs.size (Obj.mapSeq (· ++ vs.toArray))).push (seqObj "list" vs.toArray 0) }) (ρ := ρ) hoL h64 (fun v hv => ?_) (fun v hv u hu => ?_) (fun v hv u hu => ?_) fun out a1 => ⟨_, rfl, ?_⟩) (args_list_sort _)))
  · obtain ⟨y, py⟩ := x v hv
    exact ⟨y, py.keeps keep⟩
  · show txt (((s.heap.push (seqObj "list" #[] 0)).update s.heap.objs.size (Obj.mapSeq (· ++ vs.toArray))).push (seqObj "list" vs.toArray 0)) v = txt (((s.heap.push (seqObj "list" #[] 0)).update s.heap.objs.size (Obj.mapSeq (· ++ vs.toArray))).push (seqObj "list" vs.toArray 0)) u → _
    rw [tx v hv, tx u hu]
    exact inj v hv u hu
  · show decide ((txt (((s.heap.push (seqObj "list" #[] 0)).update s.heap.objs.size (Obj.mapSeq (· ++ vs.toArray))).push (seqObj "list" vs.toArray 0)) v).cps.toList < (txt (((s.heap.push (seqObj "list" #[] 0)).update s.heap.objs.size (Obj.mapSeq (· ++ vs.toArray))).push (seqObj "list" vs.toArray 0)) u).cps.toList) = decide (ρ (txt (((s.heap.push (seqObj "list" #[] 0)).update s.heap.objs.size (Obj.mapSeq (· ++ vs.toArray))).push (seqObj "list" vs.toArray 0)) v) < ρ (txt (((s.heap.push (seqObj "list" #[] 0)).update s.heap.objs.size (Obj.mapSeq (· ++ vs.toArray))).push (seqObj "list" vs.toArray 0)) u))
    rw [tx v hv, tx u hu]
    exact hρ v hv u hu
  · exact wpAny_pure ⟨_, rfl, h out a1⟩
end
end Ca.SortT
namespace Ca
open PySem L2
section
variable {X : Cx}
def rSortTS (K : PySem.W.Frag) : List V → Hp → VK → Prop := fun vs H Q => ∃ (a : Addr) (zs : List (Addr × Str × V)), vs = [V.ref a] ∧ SqL K H a (zs.map fun z => V.ref z.1) ∧ zs.length < 64 ∧ (∀ z ∈ zs, SqT K H z.1 [.str z.2.1, z.2.2]) ∧
  (zs.map fun z => z.2.1).Nodup ∧ ∀ (ys : List V) (p : Addr), ys.Perm (zs.map fun z => V.ref z.1) → H p = none → Q (.ref p) (upd H p (.lst ys))
theorem nodup_at {α β : Type} {f : α → β} : ∀ {l : List α}, (l.map f).Nodup → ∀ x ∈ l, ∀ y ∈ l, f x = f y → x = y
  | [], _, _, h, _, _, _ => nomatch h
  | a :: l, n, x, hx, y, hy, e => by
    rw [List.map_cons, List.nodup_cons] at n
    rcases List.mem_cons.mp hx with h1 | h1
    · rcases List.mem_cons.mp hy with h2 | h2
      · rw [h1, h2]
      · exact (n.1 (List.mem_map.mpr ⟨y, h2, by rw [← h1, e]⟩)).elim
    · rcases List.mem_cons.mp hy with h2 | h2
      · exact (n.1 (List.mem_map.mpr ⟨x, h1, by rw [← h2, e]⟩)).elim
      · exact nodup_at n.2 x h1 y h2 e
theorem pairT_raw {pins : List (Addr × Obj)} {σ : St} {H : Hp} {s : Shared} (I : Inv X pins σ H s) {t : Addr} {y : Str} {u : V} (h : SqT X.K H t [.str y, u]) : SortT.PairT s.heap (.ref t) y := by
  obtain ⟨its, rv, hT, _⟩ := I.tuple h
  cases rv with
  | cons r1 r2 =>
    obtain ⟨tk, rfl⟩ := r1
    cases r2 with
    | cons r3 r4 =>
      cases r4
      exact ⟨t, tk, _, rfl, hT⟩
theorem cr_sortedTS : CallR X (.builtin "sorted") (rSortTS X.K) := by
  intro pins s σ H vs us Q I r h
  obtain ⟨a, zs, rfl, hs, h64, hx, hinj, q⟩ := h
  obtain ⟨its, rv, hl, hz⟩ := I.list hs
  rw [Vals.ref1 r]
  obtain ⟨e1, e2⟩ := bkV_refs rv fun x m => by
    obtain ⟨z, _, e⟩ := List.mem_map.mp m
    exact ⟨z.1, e.symm⟩
  have at_ : ∀ v ∈ its, ∃ z ∈ zs, v = Value.ref z.1 ∧ SqT X.K H z.1 [.str z.2.1, z.2.2] := fun v hv => by
    obtain ⟨t, rfl⟩ := e2 v hv
    have hm : V.ref t ∈ zs.map fun z => V.ref z.1 := by
      rw [e1]
      exact List.mem_map.mpr ⟨_, hv, rfl⟩
    obtain ⟨z, hz, e⟩ := List.mem_map.mp hm
    cases e
    exact ⟨z, hz, rfl, hx z hz⟩
  refine SortT.sorted_ts (ρ := fun y => (SortT.rank (its.map fun v => (SortT.txt s.heap v).cps.toList) y.cps.toList : Int)) hl.isList (by rw [← rv.length, List.length_map]; exact h64) (fun v hv => ?_) (fun v hv u hu he => ?_) (fun v hv u hu => ?_) fun out h1 => ?_
  · obtain ⟨z, hz, rfl, ht⟩ := at_ v hv
    exact ⟨_, pairT_raw I ht⟩
  · obtain ⟨z, hz, rfl, ht⟩ := at_ v hv
    obtain ⟨z', hz', rfl, ht'⟩ := at_ u hu
    rw [(pairT_raw I ht).tx, (pairT_raw I ht').tx] at he
    rw [nodup_at hinj z hz z' hz' he]
  · exact SortT.rank_lt (List.mem_map.mpr ⟨v, hv, rfl⟩)
  · obtain ⟨ep, he'⟩ := PyProof.Rows.sortedAll_at s.heap its out
    have h3 : ∀ u ∈ out.toList, ∃ a, u = Value.ref a := fun u hu => e2 u (h1.mem_iff.mp hu)
    have hp : (out.toList.map bkV).Perm (zs.map fun z => V.ref z.1) := by
      rw [e1]
      exact h1.map bkV
    have hlen : (out.toList.map bkV).length ≤ sizeLine := by
      rw [hp.length_eq]
      exact hz
    exact ⟨.ref _, upd H (s.heap.objs.size + 1) (.lst (out.toList.map bkV)), I.laid (t' := s.toks) (fun _ _ => PyProof.Rows.sortedAll_old) (Nat.le_succ _) ⟨hlen, out.toList, ep, bkV_vals h3, he'⟩, rfl, q _ _ hp (I.hok.fresh (Nat.le_succ _))⟩
end
end Ca
namespace Ca
open PySem L2 PySem.Spec PyProof.Rows
/-! ## methods -/
structure Met (P : Program) (w : World) (K : PySem.W.Frag) (mg : Str → Option Value) (base : Heap) (C : Addr) (m : Str) (k : Nat) (ps : List Str) (sp : Sp) : Prop where
  ex : ∃ (f : Addr) (fd : FuncData), Cls K C ∧ Meth K C m f ∧ Binds K fd ps [] ∧ FnOk P w K mg base CX0 k f fd ps sp
structure MetAt (K : PySem.W.Frag) (C : Addr) (m q : Str) (st : Stmt) : Prop where
  ex : ∃ (f : Addr) (fd : FuncData), Cls K C ∧ Meth K C m f ∧ Fun K m q st f fd
structure Mak (P : Program) (w : World) (K : PySem.W.Frag) (mg : Str → Option Value) (base : Heap) (x : Str) (C : Addr) (k : Nat) (ps : List Str) (sp : Sp) : Prop where
  ex : ∃ (f : Addr) (fd : FuncData), Mk K C f ∧ mg x = some (.ref C) ∧ Binds K fd ps [] ∧ FnOk P w K mg base CX0 k f fd ps sp
structure MakAt (K : PySem.W.Frag) (mg : Str → Option Value) (x : Str) (C : Addr) (q : Str) (st : Stmt) : Prop where
  ex : ∃ (f : Addr) (fd : FuncData), Mk K C f ∧ mg x = some (.ref C) ∧ Fun K "__init__" q st f fd
section
variable {P : Program} {w : World} {K : PySem.W.Frag} {mg : Str → Option Value} {base : Heap} {C : Addr}
theorem MetAt.met {m q : Str} {st : Stmt} {N ps : List Str} {k : Nat} {sp : Sp} (F : MetAt K C m q st) (S : FnScope N ps (defScope st)) (len : ∀ vs H Q E, sp vs H Q E → vs.length = ps.length)
    (hb : ∀ (kV doc pm : Value) (an : Option Addr) (cdv ct : Value) (us : List Value), us.length = ps.length → bindArgs (PySem.W.fnOf m q (defArgs st) (defBody st) (defScope st) .none kV doc pm an cdv ct) ⟨us, []⟩ = pure (ps.zip us))
    (hbody : ∀ (f : Addr) (cdv : Value) (A : Around) (outer : List Env) (s : Shared) (H : Hp) (vs : List V) (Q : VK) (E : XK), Room k (A.deeper (envOfC q (defScope st) s.heap.objs.size f cdv)) → sp vs H Q E →
      ∃ t, PSs (cxOf CX0 P w K mg base N q (defScope st) f cdv A outer s H E).nox (defBody st) t ∧ t { nx := fun _ H' => Q .non H', rt := Q } (start N vs) H) : Met P w K mg base C m (k + 1) ps sp := by
  obtain ⟨f, fd, h0, h1, h2⟩ := F.ex
  exact ⟨f, fd, h0, h1, h2.binds hb, h2.ok S len fun cdv A outer s H vs Q E hr h => hbody f cdv A outer s H vs Q E hr h⟩
theorem MakAt.mak {x q : Str} {st : Stmt} {N ps : List Str} {k : Nat} {sp : Sp} (F : MakAt K mg x C q st) (S : FnScope N ps (defScope st)) (len : ∀ vs H Q E, sp vs H Q E → vs.length = ps.length)
    (hb : ∀ (kV doc pm : Value) (an : Option Addr) (cdv ct : Value) (us : List Value), us.length = ps.length → bindArgs (PySem.W.fnOf "__init__" q (defArgs st) (defBody st) (defScope st) .none kV doc pm an cdv ct) ⟨us, []⟩ = pure (ps.zip us))
    (hbody : ∀ (f : Addr) (cdv : Value) (A : Around) (outer : List Env) (s : Shared) (H : Hp) (vs : List V) (Q : VK) (E : XK), Room k (A.deeper (envOfC q (defScope st) s.heap.objs.size f cdv)) → sp vs H Q E →
      ∃ t, PSs (cxOf CX0 P w K mg base N q (defScope st) f cdv A outer s H E).nox (defBody st) t ∧ t { nx := fun _ H' => Q .non H', rt := Q } (start N vs) H) : Mak P w K mg base x C (k + 1) ps sp := by
  obtain ⟨f, fd, h0, h1, h2⟩ := F.ex
  exact ⟨f, fd, h0, h1, h2.binds hb, h2.ok S len fun cdv A outer s H vs Q E hr h => hbody f cdv A outer s H vs Q E hr h⟩
end
section
variable {X : Cx} {k j : Nat} {C : Addr} {x m : Str} {ps : List Str} {sp : Sp} {p pos apos : Pos} {e o : Expr} {es : List Expr} {ta : TE} {t : TA}
theorem pe_calm {pl : Sem Bool} (c : Met X.prog X.w X.K X.mg X.base C m k ps sp) (hr : Room j X.A) (he : PE X o ta) (ha : PA X (e :: es) t) (hk : k ≤ j := by omega)
    (hst : starEach (e :: es) X.env = (false, eval e X.env) :: starEach es X.env := by rfl) (hpl : (backTo pos (starEach es X.env)).any (·.1) = false := by rfl)
    (ht : eval (.Call (.Attribute o m apos) (e :: es) [] pos) X.env = (do
      let ov ← eval o X.env
      standAt apos.atName
      let (f, first) ← holding [ov] (getMethod ov m pl)
      callWith pos f first (backTo pos (starEach (e :: es) X.env)) (backToKw pos (keywordEach [] X.env))) := by rfl) :
    PE X (.Call (.Attribute o m apos) (e :: es) [] pos) (tMeth C m sp [] E0 ta t) := by
  obtain ⟨f, fd, hc, hm, b, F⟩ := c.ex
  exact pe_meth (pl := pl) he hc hm F (hr.mono hk) b .nil pass0 ha hst hpl ht
theorem pe_calm0 {pl : Sem Bool} (c : Met X.prog X.w X.K X.mg X.base C m k ps sp) (hr : Room j X.A) (he : PE X o ta) (hk : k ≤ j := by omega)
    (ht : eval (.Call (.Attribute o m apos) [] [] pos) X.env = (do
      let ov ← eval o X.env
      standAt apos.atName
      let (f, first) ← holding [ov] (getMethod ov m pl)
      callWith pos f first (backTo pos (starEach [] X.env)) (backToKw pos (keywordEach [] X.env))) := by rfl) :
    PE X (.Call (.Attribute o m apos) [] [] pos) (tMeth C m sp [] E0 ta tNil) := by
  obtain ⟨f, fd, hc, hm, b, F⟩ := c.ex
  exact pe_meth0 (pl := pl) he hc hm F (hr.mono hk) b .nil pass0 ht
theorem pe_mak (c : Mak X.prog X.w X.K X.mg X.base x C k ps sp) (hr : Room j X.A) (hg : Gl X x) (ha : PA X (e :: es) t) (hk : k + 1 ≤ j := by omega)
    (hdb : (x == ("__debug__" : Str)) = false := by decide) (he : starEach (e :: es) X.env = (false, eval e X.env) :: starEach es X.env := by rfl) (hpl : (backTo pos (starEach es X.env)).any (·.1) = false := by rfl) :
    PE X (.Call (.Name x p) (e :: es) [] pos) (tMake C sp [] E0 t) := by
  obtain ⟨f, fd, M, hm, b, F⟩ := c.ex
  exact pe_make M F (hr.mono hk) hg hm b .nil pass0 ha hdb he hpl
end
/-! ## the laying object -/
structure Stp where
  hand : Str
  frm : Int
  guard : Rk
  sets : List (Str × Sm)
  to : Int
def Stp.d (s : Stp) : PyData := .tuple [.str s.hand, .int s.frm, s.guard.d, .tuple (s.sets.map sd), .int s.to]
/-- what does not change -/
structure Lc where
  (l dx hl ll bd od sl ld yd al : Addr)
  (hands locks boxes : List Str)
  owners : List (Str × Str)
/-- what does -/
structure Ls where
  hand : Str
  many : Int
  steps : List Stp
  labels : List ((Str × Str) × Int)
  says : List ((Str × Int) × Addr × List Rk)
  asked : List (Str × PyData)
  bud : Nat
def lyF (c : Lc) (s : Ls) : List (Str × V) := [("hands", .ref c.hl), ("locks", .ref c.ll), ("boxes", .ref c.bd), ("owners", .ref c.od), ("steps", .ref c.sl), ("labels", .ref c.ld), ("says", .ref c.yd), ("asked", .ref c.al), ("hand", .str s.hand), ("many", .int s.many)]
def own (c : Lc) (s : Ls) (b : Addr) : Prop := b = c.l ∨ b = c.sl ∨ b = c.ld ∨ b = c.yd ∨ b = c.al ∨ b ∈ s.says.map (·.2.1)
def labK (p : (Str × Str) × Int) : List Key × V := ([.inr p.1.1, .inr p.1.2], .int p.2)
def sayK (p : (Str × Int) × Addr × List Rk) : List Key × V := ([.inr p.1.1, .inl p.1.2], .ref p.2.1)
def LabT (p : PyData) : Prop := p = .str "lab" ∨ p = .str "fin"
structure LyAt (K : PySem.W.Frag) (C : Addr) (c : Lc) (s : Ls) (F H : Hp) : Prop where
  fh : Same F H
  at_ : H c.l = some (.ins C c.dx (lyF c s))
  nl : F c.l = none
  hl : F c.hl = some (.lst (c.hands.map V.str))
  ll : F c.ll = some (.lst (c.locks.map V.str))
  bd : F c.bd = some (.dK (c.boxes.map fun x => (.inr x, .str "")))
  od : F c.od = some (.dK (c.owners.map fun p => (.inr p.1, .str p.2)))
  sl : ∃ vs, H c.sl = some (.lst vs) ∧ Das K F vs (s.steps.map Stp.d)
  ns : F c.sl = none
  nsl : s.steps.length ≤ s.bud
  gd : ∀ x ∈ s.steps, ∃ N, x.guard.Ok N c.hands 3
  ld : H c.ld = some (.dT (s.labels.map labK))
  nld : F c.ld = none
  ldl : s.labels.length ≤ s.bud
  yd : H c.yd = some (.dT (s.says.map sayK))
  nyd : F c.yd = none
  ydl : s.says.length ≤ s.bud
  ys : ∀ p ∈ s.says, F p.2.1 = none ∧ p.2.2.length ≤ s.bud ∧ (∃ vs, H p.2.1 = some (.lst vs) ∧ Das K F vs (p.2.2.map Rk.d)) ∧ ∀ r ∈ p.2.2, ∃ N, r.Ok N c.hands 2
  yn : (s.says.map (·.2.1)).Nodup
  al : ∃ vs, H c.al = some (.lst vs) ∧ Das K F vs (s.asked.map atd)
  nal : F c.al = none
  all_ : s.asked.length ≤ s.bud
  ask : ∀ a ∈ s.asked, a.1 ∈ c.hands ∧ LabT a.2
  ne : c.sl ≠ c.al ∧ c.ld ≠ c.yd ∧ c.sl ∉ s.says.map (·.2.1) ∧ c.al ∉ s.says.map (·.2.1)
theorem same_bud {s : Ls} {b : Nat} (h : s.bud ≤ b) : s.bud ≤ b := h
section
variable {K : PySem.W.Frag} {C : Addr} {c : Lc} {s : Ls} {F H F' H' : Hp}
/-- other objects change -/
theorem LyAt.keep (a : LyAt K C c s F H) (e : Same F F') (f : Same F' H') (k : ∀ b o, H b = some o → own c s b → H' b = some o ∧ F' b = none) : LyAt K C c s F' H' := by
  have o1 := k _ _ a.at_ (.inl rfl)
  obtain ⟨vs, h1, h2⟩ := a.sl
  have o2 := k _ _ h1 (.inr (.inl rfl))
  have o3 := k _ _ a.ld (.inr (.inr (.inl rfl)))
  have o4 := k _ _ a.yd (.inr (.inr (.inr (.inl rfl))))
  obtain ⟨us, h3, h4⟩ := a.al
  have o5 := k _ _ h3 (.inr (.inr (.inr (.inr (.inl rfl)))))
  exact ⟨f, o1.1, o1.2, e _ _ a.hl, e _ _ a.ll, e _ _ a.bd, e _ _ a.od, ⟨vs, o2.1, h2.mono e⟩, o2.2, a.nsl, a.gd, o3.1, o3.2, a.ldl, o4.1, o4.2, a.ydl, fun p hp => by
    obtain ⟨y1, y2, ⟨ws, y3, y4⟩, y5⟩ := a.ys p hp
    have o6 := k _ _ y3 (.inr (.inr (.inr (.inr (.inr (List.mem_map.mpr ⟨p, hp, rfl⟩))))))
    exact ⟨o6.2, y2, ⟨ws, o6.1, y4.mono e⟩, y5⟩, a.yn, ⟨us, o5.1, h4.mono e⟩, o5.2, a.all_, a.ask, a.ne⟩
theorem LyAt.ownAt (a : LyAt K C c s F H) {b : Addr} (h : own c s b) : F b = none ∧ ∃ o, H b = some o := by
  rcases h with rfl | rfl | rfl | rfl | rfl | h
  · exact ⟨a.nl, _, a.at_⟩
  · obtain ⟨vs, h1, h2⟩ := a.sl
    exact ⟨a.ns, _, h1⟩
  · exact ⟨a.nld, _, a.ld⟩
  · exact ⟨a.nyd, _, a.yd⟩
  · obtain ⟨vs, h1, h2⟩ := a.al
    exact ⟨a.nal, _, h1⟩
  · obtain ⟨p, hp, rfl⟩ := List.mem_map.mp h
    obtain ⟨y1, y2, ⟨ws, y3, y4⟩, y5⟩ := a.ys p hp
    exact ⟨y1, _, y3⟩
/-- a new object -/
theorem LyAt.new {p : Addr} {o : HO} (a : LyAt K C c s F H) (h : H p = none) : LyAt K C c s F (upd H p o) :=
  a.keep (Same.refl F) (fun b u q => by rw [upd_ne (ne_of_none (a.fh b u q) h)]; exact a.fh b u q) fun b u e w => ⟨by rw [upd_ne (ne_of_none e h)]; exact e, (a.ownAt w).1⟩
/-- a new object, frozen -/
theorem LyAt.newF {p : Addr} {o : HO} (a : LyAt K C c s F H) (h : H p = none) : LyAt K C c s (upd F p o) (upd H p o) := by
  have n1 : F p = none := a.fh.free h
  refine a.keep (Same.new n1) (fun b u q => ?_) fun b u e w => ⟨by rw [upd_ne (ne_of_none e h)]; exact e, by rw [upd_ne (ne_of_none e h)]; exact (a.ownAt w).1⟩
  by_cases hb : b = p
  · subst hb
    rw [upd_same] at q
    rw [upd_same]
    exact q
  · rw [upd_ne hb] at q
    rw [upd_ne hb]
    exact a.fh b u q
/-- a kept object, not of its own, is frozen -/
theorem LyAt.frz {p : Addr} {o : HO} (a : LyAt K C c s F H) (h : H p = some o) (n : F p = none) (w : ¬ own c s p) : LyAt K C c s (upd F p o) H := by
  refine a.keep (Same.new n) (fun b u q => ?_) fun b u e z => ⟨e, ?_⟩
  · by_cases hb : b = p
    · subst hb
      rw [upd_same] at q
      cases q
      exact h
    · rw [upd_ne hb] at q
      exact a.fh b u q
  · have hb : b ≠ p := fun y => w (y ▸ z)
    rw [upd_ne hb]
    exact (a.ownAt z).1
theorem LyAt.budM (a : LyAt K C c s F H) {b : Nat} (h : s.bud ≤ b) : LyAt K C c { s with bud := b } F H :=
  ⟨a.fh, a.at_, a.nl, a.hl, a.ll, a.bd, a.od, a.sl, a.ns, Nat.le_trans a.nsl h, a.gd, a.ld, a.nld, Nat.le_trans a.ldl h, a.yd, a.nyd, Nat.le_trans a.ydl h, fun p hp => by
    obtain ⟨y1, y2, y3, y5⟩ := a.ys p hp
    exact ⟨y1, Nat.le_trans y2 h, y3, y5⟩, a.yn, a.al, a.nal, Nat.le_trans a.all_ h, a.ask, a.ne⟩
/-- a reader's heap -/
theorem LyAt.same (a : LyAt K C c s F H) (e : Same H H') : LyAt K C c s F H' :=
  a.keep (Same.refl F) (a.fh.trans e) fun b u h w => ⟨e _ _ h, (a.ownAt w).1⟩
end
/-! fields -/
theorem lk_hands (c : Lc) (s : Ls) : (lyF c s).lookup ("hands" : Str) = some (.ref c.hl) := by rfl
theorem lk_locks (c : Lc) (s : Ls) : (lyF c s).lookup ("locks" : Str) = some (.ref c.ll) := by rfl
theorem lk_boxes (c : Lc) (s : Ls) : (lyF c s).lookup ("boxes" : Str) = some (.ref c.bd) := by rfl
theorem lk_owners (c : Lc) (s : Ls) : (lyF c s).lookup ("owners" : Str) = some (.ref c.od) := by rfl
theorem lk_steps (c : Lc) (s : Ls) : (lyF c s).lookup ("steps" : Str) = some (.ref c.sl) := by rfl
theorem lk_labels (c : Lc) (s : Ls) : (lyF c s).lookup ("labels" : Str) = some (.ref c.ld) := by rfl
theorem lk_says (c : Lc) (s : Ls) : (lyF c s).lookup ("says" : Str) = some (.ref c.yd) := by rfl
theorem lk_asked (c : Lc) (s : Ls) : (lyF c s).lookup ("asked" : Str) = some (.ref c.al) := by rfl
theorem lk_hand (c : Lc) (s : Ls) : (lyF c s).lookup ("hand" : Str) = some (.str s.hand) := by rfl
theorem lk_many (c : Lc) (s : Ls) : (lyF c s).lookup ("many" : Str) = some (.int s.many) := by rfl
theorem put_hand (c : Lc) (s : Ls) (x : Str) : putF "hand" (.str x) (lyF c s) = lyF c { s with hand := x } := by rfl
theorem put_many (c : Lc) (s : Ls) (x : Int) : putF "many" (.int x) (lyF c s) = lyF c { s with many := x } := by rfl
def fields : List Str := ["hands", "locks", "boxes", "owners", "steps", "labels", "says", "asked", "hand", "many"]
structure LCls (K : PySem.W.Frag) (C : Addr) : Prop where
  cls : Cls K C
  na : ∀ f ∈ fields, NoAttr K C f
end Ca
namespace Ca
open PySem L2
/-! ## the steps that rows are laid as -/
def TRk : Rk := .and []
def labOf (r : Row) (here : Int) : List (Str × Int) := match r with
  | .label l => [(l, here)]
  | _ => []
abbrev SRel := Row → Int → Int → Int → List Stp → Int → Prop
/-- rows behind one another: rows, here, to, m (the next place), steps, labels, m behind -/
def LayC (S : SRel) : List Row → Int → Int → Int → List Stp → List (Str × Int) → Int → Prop
  | [], _, _, m, st, lb, m' => st = [] ∧ lb = [] ∧ m' = m
  | r :: rs, here, to, m, st, lb, m' =>
    if r.mark = true then ∃ lb', lb = labOf r here ++ lb' ∧ LayC S rs here to m st lb' m'
    else if stm rs = [] then ∃ st1 st2 m1, st = st1 ++ st2 ∧ S r here to m st1 m1 ∧ LayC S rs to to m1 st2 lb m'
    else ∃ st1 st2 m1, st = st1 ++ st2 ∧ S r here m (m + 1) st1 m1 ∧ LayC S rs m to m1 st2 lb m'
def LayR (h : Str) (S : SRel) (rs : List Row) (p q m : Int) (st : List Stp) (lb : List (Str × Int)) (m' : Int) : Prop :=
  if stm rs = [] then ∃ st', st = [⟨h, p, TRk, [], q⟩] ++ st' ∧ LayC S rs q q m st' lb m' else LayC S rs p q m st lb m'
def LayW (h : Str) (S : SRel) : List (List Row) → Int → Int → Int → List Stp → Int → Prop
  | [], _, _, m, st, m' => st = [] ∧ m' = m
  | a :: ws, k, q, m, st, m' => ∃ st1 st2 m1, st = st1 ++ st2 ∧ LayR h S a k q m st1 [] m1 ∧ LayW h S ws (k + 1) q m1 st2 m'
def eithers (h : Str) (p m : Int) (k : Nat) : List Stp := (List.range k).map fun i : Nat => ⟨h, p, TRk, [], m + (i : Int)⟩
def LayS (h : Str) (num : Int) : Nat → SRel
  | 0, _, _, _, _, _, _ => False
  | _ + 1, .set ss, p, q, m, st, m' => ∃ ss', List.Perm ss' ss ∧ st = [⟨h, p, TRk, ss', q⟩] ∧ m' = m
  | _ + 1, .wait r, p, q, m, st, m' => st = [⟨h, p, r, [], q⟩] ∧ m' = m
  | _ + 1, .take l, p, q, m, st, m' => st = [⟨h, p, .most ⟨0, [(l, 1)]⟩, [(l, ⟨num, []⟩)], q⟩] ∧ m' = m
  | _ + 1, .give l, p, q, m, st, m' => st = [⟨h, p, TRk, [(l, ⟨0, []⟩)], q⟩] ∧ m' = m
  | n + 1, .iff r a b, p, q, m, st, m' => if b = [] then ∃ st', st = [⟨h, p, r, [], m⟩, ⟨h, p, .not r, [], q⟩] ++ st' ∧ LayR h (LayS h num n) a m q (m + 1) st' [] m'
      else ∃ st1 st2 m1, st = [⟨h, p, r, [], m⟩, ⟨h, p, .not r, [], m + 1⟩] ++ (st1 ++ st2) ∧ LayR h (LayS h num n) a m q (m + 2) st1 [] m1 ∧ LayR h (LayS h num n) b (m + 1) q m1 st2 [] m'
  | n + 1, .whl r a, p, q, m, st, m' => ∃ st', st = [⟨h, p, r, [], m⟩, ⟨h, p, .not r, [], q⟩] ++ st' ∧ LayR h (LayS h num n) a m p (m + 1) st' [] m'
  | n + 1, .rounds k a, p, q, m, st, m' => LayR h (LayS h num n) (List.replicate k.toNat a).flatten p q m st [] m'
  | n + 1, .either ws, p, q, m, st, m' => ∃ st', st = eithers h p m ws.length ++ st' ∧ LayW h (LayS h num n) ws m q (m + ws.length) st' m'
  | _ + 1, .label _, _, _, _, _, _ => False
  | _ + 1, .say _, _, _, _, _, _ => False
  | _ + 1, .skip, _, _, _, _, _ => False
def lbs (rs : List Row) : List Str := rs.filterMap fun r => match r with
  | .label l => some l
  | _ => none
theorem layC_lab {S : SRel} : ∀ {rs : List Row} {p q m : Int} {st : List Stp} {lb : List (Str × Int)} {m' : Int}, lbs rs = [] → LayC S rs p q m st lb m' → lb = []
  | [], _, _, _, _, _, _, _, h => h.2.1
  | r :: rs, p, q, m, st, lb, m', e, h => by
    unfold LayC at h
    have e2 : lbs rs = [] ∧ labOf r p = [] := by
      cases r <;> first | exact ⟨e, rfl⟩ | exact nomatch e
    by_cases hm : r.mark = true
    · rw [if_pos hm] at h
      obtain ⟨lb', h1, h2⟩ := h
      rw [h1, e2.2, layC_lab e2.1 h2]
      rfl
    · rw [if_neg hm] at h
      by_cases hs : stm rs = []
      · rw [if_pos hs] at h
        obtain ⟨st1, st2, m1, h1, h2, h3⟩ := h
        exact layC_lab e2.1 h3
      · rw [if_neg hs] at h
        obtain ⟨st1, st2, m1, h1, h2, h3⟩ := h
        exact layC_lab e2.1 h3
theorem layR_lab {h : Str} {S : SRel} {rs : List Row} {p q m : Int} {st : List Stp} {lb : List (Str × Int)} {m' : Int} (e : lbs rs = []) (k : LayR h S rs p q m st lb m') : lb = [] := by
  unfold LayR at k
  by_cases hs : stm rs = []
  · rw [if_pos hs] at k
    obtain ⟨st', _, k⟩ := k
    exact layC_lab e k
  · rw [if_neg hs] at k
    exact layC_lab e k
theorem lbs_ok {E : En} {n : Nat} : ∀ {rs : List Row}, (∀ x ∈ rs, Row.Ok E n x) → lbs rs = []
  | [], _ => rfl
  | r :: rs, h => by
    have h1 := lbs_ok fun x hx => h x (List.mem_cons_of_mem _ hx)
    have h2 := h r List.mem_cons_self
    cases r with
    | label l => cases n <;> exact h2.elim
    | _ => exact h1
/-- the names of the trees are those of the laying -/
structure EnOk (c : Lc) (hand : Str) (num : Int) (E : En) : Prop where
  mine : ∀ x ∈ E.mine, x ∈ c.boxes ∨ (c.owners.find? fun p => decide (p.1 = x)).map (·.2) = some hand
  locks : ∀ x ∈ E.locks, x ∈ c.locks
  hands : E.hands = c.hands
  all_ : ∀ x ∈ E.all, x ∈ c.boxes ∨ x ∈ c.locks ∨ x ∈ c.owners.map (·.1)
  nd : c.hands.Nodup
  at_ : ∃ j : Nat, c.hands[j]? = some hand ∧ num = (j : Int) + 1
end Ca
namespace Ca
open PySem L2
structure Bx where
  name : Str
  low : Int
  high : Int
  start : Int
def Bx.d (b : Bx) : PyData := .tuple [.str b.name, .int b.low, .int b.high, .int b.start]
structure Hnd where
  name : Str
  owns : List Bx
  rows : List Row
def Hnd.d (h : Hnd) : PyData := .tuple [.str h.name, .list (h.owns.map Bx.d), rd h.rows]
structure Tree where
  boxes : List Bx
  locks : List Str
  hands : List Hnd
def Tree.d (T : Tree) : PyData := .tuple [.list (T.boxes.map Bx.d), .list (T.locks.map PyData.str), .list (T.hands.map Hnd.d)]
def bn (bs : List Bx) : List Str := bs.map Bx.name
def Tree.hn (T : Tree) : List Str := T.hands.map Hnd.name
/-- the boxes of one's own, with whose they are -/
def ownL (hs : List Hnd) : List (Str × Str) := (hs.map fun h => h.owns.map fun b => (b.name, h.name)).flatten
def nmL (hs : List Hnd) : List Str := (hs.map fun h => h.name :: bn h.owns).flatten
def Tree.names (T : Tree) : List Str := bn T.boxes ++ T.locks ++ nmL T.hands
structure EnT (T : Tree) (h : Hnd) (E : En) : Prop where
  mine : ∀ x ∈ E.mine, x ∈ bn T.boxes ∨ x ∈ bn h.owns
  locks : ∀ x ∈ E.locks, x ∈ T.locks
  hands : E.hands = T.hn
  all_ : ∀ x ∈ E.all, x ∈ bn T.boxes ∨ x ∈ T.locks ∨ x ∈ (ownL T.hands).map (·.1)
structure Tree.Ok (T : Tree) : Prop where
  hl : T.hands.length ≤ 3
  bl : T.boxes.length ≤ 10
  ll : T.locks.length ≤ 10
  ol : ∀ h ∈ T.hands, h.owns.length ≤ 10
  nd : T.names.Nodup
  rows : ∀ h ∈ T.hands, ∃ rs E, h.rows = [.label "lab"] ++ rs ++ [.label "fin"] ∧ rs.length ≤ 10 ∧ (∀ x ∈ rs, Row.Ok E 3 x) ∧ EnT T h E
  cnt1 : (T.hands.map fun h => 2 + (cntR h.rows).1).sum ≤ 24
  cnt2 : (T.hands.map fun h => (cntR h.rows).2).sum ≤ 40
/-- what laying the hands gives -/
def LayH : List Hnd → Nat → List Stp → List ((Str × Str) × Int) → List (Str × Int) → Prop
  | [], _, st, lb, ms => st = [] ∧ lb = [] ∧ ms = []
  | h :: hs, k, st, lb, ms => ∃ st1 lb1 m1 st2 lb2 ms2, st = st1 ++ st2 ∧ lb = (lb1.map fun p : Str × Int => ((h.name, p.1), p.2)) ++ lb2 ∧ ms = (h.name, m1) :: ms2 ∧
    LayR h.name (LayS h.name ((k : Int) + 1) 3) h.rows 0 1 2 st1 lb1 m1 ∧ LayH hs (k + 1) st2 lb2 ms2
/-- labels to places -/
def lab0 (lb : List ((Str × Str) × Int)) (h l : Str) : Int := ((lb.find? fun p => decide (p.1 = (h, l))).map (·.2)).getD 0
def plcD (f : Str → Str → Int) (h : Str) : PyData → PyData
  | .str l => .int (f h l)
  | d => d
mutual
def Rk.plc (f : Str → Str → Int) : Rk → Rk
  | .most s => .most s
  | .rest s m => .rest s m
  | .at h p => .at h (plcD f h p)
  | .not r => .not (r.plc f)
  | .and rs => .and (Rk.plcs f rs)
  | .or rs => .or (Rk.plcs f rs)
def Rk.plcs (f : Str → Str → Int) : List Rk → List Rk
  | [] => []
  | r :: rs => r.plc f :: Rk.plcs f rs
end
theorem Rk.plcs_eq (f : Str → Str → Int) : ∀ rs : List Rk, Rk.plcs f rs = rs.map (Rk.plc f)
  | [] => rfl
  | r :: rs => by
    show r.plc f :: Rk.plcs f rs = r.plc f :: rs.map (Rk.plc f)
    rw [Rk.plcs_eq f rs]
def Stp.plc (f : Str → Str → Int) (s : Stp) : Stp := { s with guard := s.guard.plc f }
/-- a box of the program -/
structure Bo where
  name : Str
  owner : Str
  low : Int
  high : Int
  start : Int
def Bo.d (b : Bo) : PyData := .tuple [.str b.name, .str b.owner, .int b.low, .int b.high, .int b.start]
def hmd (p : Str × Int) : PyData := .tuple [.str p.1, .int p.2]
structure Pg where
  boxes : List Bo
  hands : List (Str × Int)
  steps : List Stp
  locks : List Str
def Pg.d (p : Pg) : PyData := .tuple [.list (p.boxes.map Bo.d), .list (p.hands.map hmd), .list (p.steps.map Stp.d), .tuple (p.locks.map PyData.str)]
def Bx.o (w : Str) (b : Bx) : Bo := ⟨b.name, w, b.low, b.high, b.start⟩
def Tree.bos (T : Tree) : List Bo := T.boxes.map (Bx.o "") ++ (T.locks.map fun x => (⟨x, "", 0, (T.hands.length : Int), 0⟩ : Bo)) ++ (T.hands.map fun h => h.owns.map (Bx.o h.name)).flatten
def LaidAll (T : Tree) (p : Pg) : Prop := p.boxes = T.bos ∧ p.locks = T.locks ∧ ∃ st lb, LayH T.hands 0 st lb p.hands ∧ p.steps = st.map (Stp.plc (lab0 lb))
end Ca
namespace Ca
open PySem L2
abbrev s_Laying_begin_hand : Stmt := inClass (top 22) 1
abbrev N_Laying_begin_hand : List Str := ["self", "name"]
theorem sc_Laying_begin_hand : FnScope N_Laying_begin_hand ["self", "name"] (defScope s_Laying_begin_hand) := ⟨rfl, rfl, rfl, by decide +kernel, rfl, by decide +kernel, by decide +kernel⟩
-- cells: []  slots: 0=self 1=name
abbrev s_Laying_new_place : Stmt := inClass (top 22) 2
abbrev N_Laying_new_place : List Str := ["self"]
theorem sc_Laying_new_place : FnScope N_Laying_new_place ["self"] (defScope s_Laying_new_place) := ⟨rfl, rfl, rfl, by decide +kernel, rfl, by decide +kernel, by decide +kernel⟩
-- cells: []  slots: 0=self
abbrev s_Laying_add_step : Stmt := inClass (top 22) 3
abbrev N_Laying_add_step : List Str := ["self", "start", "guard", "sets", "to"]
theorem sc_Laying_add_step : FnScope N_Laying_add_step ["self", "start", "guard", "sets", "to"] (defScope s_Laying_add_step) := ⟨rfl, rfl, rfl, by decide +kernel, rfl, by decide +kernel, by decide +kernel⟩
-- cells: []  slots: 0=self 1=start 2=guard 3=sets 4=to
abbrev s_Laying_want_box : Stmt := inClass (top 22) 4
abbrev N_Laying_want_box : List Str := ["self", "name", "setting"]
theorem sc_Laying_want_box : FnScope N_Laying_want_box ["self", "name", "setting"] (defScope s_Laying_want_box) := ⟨rfl, rfl, rfl, by decide +kernel, rfl, by decide +kernel, by decide +kernel⟩
-- cells: []  slots: 0=self 1=name 2=setting
abbrev s_Laying_want_lock : Stmt := inClass (top 22) 5
abbrev N_Laying_want_lock : List Str := ["self", "name"]
theorem sc_Laying_want_lock : FnScope N_Laying_want_lock ["self", "name"] (defScope s_Laying_want_lock) := ⟨rfl, rfl, rfl, by decide +kernel, rfl, by decide +kernel, by decide +kernel⟩
-- cells: []  slots: 0=self 1=name
abbrev s_Laying_want_any : Stmt := inClass (top 22) 6
abbrev N_Laying_want_any : List Str := ["self", "name"]
theorem sc_Laying_want_any : FnScope N_Laying_want_any ["self", "name"] (defScope s_Laying_want_any) := ⟨rfl, rfl, rfl, by decide +kernel, rfl, by decide +kernel, by decide +kernel⟩
-- cells: []  slots: 0=self 1=name
section
variable {P : Program} {w : World} {K : PySem.W.Frag} {mg : Str → Option Value} {base : Heap} {C : Addr}
theorem LyAt.setI {c : Lc} {s s' : Ls} {F H : Hp} (a : LyAt K C c s F H) (h1 : s'.steps = s.steps) (h2 : s'.labels = s.labels) (h3 : s'.says = s.says) (h4 : s'.asked = s.asked) (h5 : s'.bud = s.bud) : LyAt K C c s' F (upd H c.l (.ins C c.dx (lyF c s'))) := by
  obtain ⟨b1, b2, b3, b4, b5, b6, b7, b8, b9, b10, b11, b12, b13, b14, b15, b16, b17, b18, b19, b20, b21, b22, b23, b24⟩ := a
  have f : ∀ b o, H b = some o → (∀ fs, o ≠ .ins C c.dx fs) → upd H c.l (.ins C c.dx (lyF c s')) b = some o := fun b o e n => by
    rw [upd_ne]
    · exact e
    · intro z
      rw [z, b2] at e
      cases e
      exact n _ rfl
  refine ⟨b1.mut b3, upd_same, b3, b4, b5, b6, b7, ?_, b9, by rw [h1, h5]; exact b10, by rw [h1]; exact b11, by rw [h2]; exact f _ _ b12 (fun _ z => nomatch z), b13, by rw [h2, h5]; exact b14, by rw [h3]; exact f _ _ b15 (fun _ z => nomatch z), b16, by rw [h3, h5]; exact b17, fun p hp => ?_, by rw [h3]; exact b19, ?_, b21, by rw [h4, h5]; exact b22, by rw [h4]; exact b23, by rw [h3]; exact b24⟩
  · obtain ⟨vs, g1, g2⟩ := b8
    exact ⟨vs, f _ _ g1 (fun _ z => nomatch z), by rw [h1]; exact g2⟩
  · rw [h3] at hp
    obtain ⟨y1, y2, ⟨ws, y3, y4⟩, y5⟩ := b18 p hp
    exact ⟨y1, by rw [h5]; exact y2, ⟨ws, f _ _ y3 (fun _ z => nomatch z), y4⟩, y5⟩
  · obtain ⟨vs, g1, g2⟩ := b20
    exact ⟨vs, f _ _ g1 (fun _ z => nomatch z), by rw [h4]; exact g2⟩
def spBegin (K : PySem.W.Frag) (C : Addr) : Sp := Sp2 fun self name H Q => ∃ (c : Lc) (s : Ls) (F : Hp) (x : Str), self = .ref c.l ∧ LyAt K C c s F H ∧ name = .str x ∧
  ∀ H', Gr (own c s) F H F H' → LyAt K C c { s with hand := x, many := 2 } F H' → Q .non H'
theorem ok_begin (F : MetAt K C "begin_hand" "Laying.begin_hand" s_Laying_begin_hand) (G : Glb K mg) (L : LCls K C) : Met P w K mg base C "begin_hand" 1 ["self", "name"] (spBegin K C) := by
  refine F.met sc_Laying_begin_hand Sp2.len (fun _ _ _ _ _ _ us hl => match us, hl with | [_, _], _ => rfl) fun f cdv A outer s H vs Q E hr h => ?_
  have nd := sc_Laying_begin_hand.nd
  have hu := hu_of hr
  refine ⟨_, (pss_cons (ps_fld (pv 0) (pv 1) rfl)
    (pss_one (ps_fld (pv 0) pe_int rfl))), ?_⟩
  obtain ⟨self, name, rfl, c, s, F0, x, rfl, a, rfl, q⟩ := h
  have n1 := L.na "hand" (by decide +kernel)
  have n2 := L.na "many" (by decide +kernel)
  refine ⟨_, rfl, _, rfl, _, _, _, _, rfl, a.at_, L.cls, n1, (by decide : 10 < 1000), ?_⟩
  have a1 : LyAt K C c { s with hand := x } F0 (upd H c.l (.ins C c.dx (putF "hand" (.str x) (lyF c s)))) := by
    rw [put_hand]
    exact a.setI rfl rfl rfl rfl rfl
  refine ⟨_, rfl, _, _, _, _, rfl, a1.at_, L.cls, n2, (by decide : 10 < 1000), ?_⟩
  have a2 : LyAt K C c { s with hand := x, many := 2 } F0 (upd (upd H c.l (.ins C c.dx (putF "hand" (.str x) (lyF c s)))) c.l (.ins C c.dx (putF "many" (.int 2) (lyF c { s with hand := x })))) := by
    rw [put_many]
    exact a1.setI rfl rfl rfl rfl rfl
  refine q _ ?_ a2
  exact ((Gr.refl a.fh).set a.nl a.at_ (.inl (.inl rfl))).set a.nl a1.at_ (.inl (.inl rfl))
def spNewp (K : PySem.W.Frag) (C : Addr) : Sp := Sp1 fun self H Q => ∃ (c : Lc) (s : Ls) (F : Hp), self = .ref c.l ∧ LyAt K C c s F H ∧
  ∀ H', Gr (own c s) F H F H' → LyAt K C c { s with many := s.many + 1 } F H' → Q (.int s.many) H'
theorem ok_newp (F : MetAt K C "new_place" "Laying.new_place" s_Laying_new_place) (G : Glb K mg) (L : LCls K C) : Met P w K mg base C "new_place" 1 ["self"] (spNewp K C) := by
  refine F.met sc_Laying_new_place Sp1.len (fun _ _ _ _ _ _ us hl => match us, hl with | [_], _ => rfl) fun f cdv A outer s H vs Q E hr h => ?_
  have nd := sc_Laying_new_place.nd
  have hu := hu_of hr
  refine ⟨_, (pss_cons (ps_fld (pv 0) (pe_op op_add (pe_fld (pv 0) rfl) pe_int) rfl)
    (pss_one (ps_ret (pe_op op_sub (pe_fld (pv 0) rfl) pe_int)))), ?_⟩
  obtain ⟨self, rfl, c, s, F0, rfl, a, q⟩ := h
  have n2 := L.na "many" (by decide +kernel)
  refine ⟨_, rfl, _, _, _, _, _, rfl, a.at_, L.cls, n2, lk_many c s, _, _, rfl, rfl, _, rfl, _, _, _, _, rfl, a.at_, L.cls, n2, (by decide : 10 < 1000), ?_⟩
  have a1 : LyAt K C c { s with many := s.many + 1 } F0 (upd H c.l (.ins C c.dx (putF "many" (.int (s.many + 1)) (lyF c s)))) := by
    rw [put_many]
    exact a.setI rfl rfl rfl rfl rfl
  refine ⟨_, rfl, _, _, _, _, _, rfl, a1.at_, L.cls, n2, lk_many c _, _, _, rfl, rfl, ?_⟩
  have e : s.many + 1 - 1 = s.many := by omega
  show Q (.int (s.many + 1 - 1)) _
  rw [e]
  exact q _ ((Gr.refl a.fh).set a.nl a.at_ (.inl (.inl rfl))) a1
def lkp {α β : Type} [DecidableEq α] (l : List (α × β)) (x : α) : Option β := (l.find? fun p => decide (p.1 = x)).map (·.2)
theorem val_lkp {α β κ : Type} [DecidableEq α] [DecidableEq κ] {g : α → κ} (inj : ∀ a b, g a = g b → a = b) (f : β → V) (x : α) : ∀ l : List (α × β), valV (l.map fun p => (g p.1, f p.2)) (g x) = (lkp l x).map f
  | [] => rfl
  | p :: r => by
    have ih := val_lkp inj f x r
    by_cases e : p.1 = x
    · rw [List.map_cons, valV_pos (by rw [e])]
      unfold lkp
      rw [List.find?_cons, decide_eq_true e]
      rfl
    · rw [List.map_cons, valV_neg (fun z => e (inj _ _ z)), ih]
      unfold lkp
      rw [List.find?_cons, decide_eq_false e]
theorem lkp_mem {α β : Type} [DecidableEq α] {l : List (α × β)} {x : α} {y : β} (h : lkp l x = some y) : (x, y) ∈ l := by
  unfold lkp at h
  cases e : l.find? fun p => decide (p.1 = x) with
  | none =>
    rw [e] at h
    cases h
  | some p =>
    rw [e] at h
    cases h
    have h1 := List.mem_of_find?_eq_some e
    have h2 := List.find?_some e
    have h3 : p.1 = x := of_decide_eq_true h2
    rw [← h3]
    exact h1
theorem lkp_none {α β : Type} [DecidableEq α] {l : List (α × β)} {x : α} : lkp l x = none ↔ x ∉ l.map (·.1) := by
  unfold lkp
  rw [Option.map_eq_none_iff, List.find?_eq_none]
  constructor
  · intro h z
    obtain ⟨p, hp, e⟩ := List.mem_map.mp z
    exact h p hp (decide_eq_true e)
  · intro h p hp e
    exact h (List.mem_map.mpr ⟨p, hp, of_decide_eq_true e⟩)
theorem flat_strs : ∀ zs : List Str, (zs.map V.str).all flatV = true
  | [] => rfl
  | _ :: zs => by
    rw [List.map_cons, List.all_cons, flat_strs zs]
    rfl
theorem in_strs (x : Str) : ∀ zs : List Str, inV (.str x) (zs.map V.str) = decide (x ∈ zs)
  | [] => rfl
  | z :: zs => by
    have ih := in_strs x zs
    unfold inV at ih ⊢
    rw [List.map_cons, List.any_cons, ih]
    show ((z == x) || decide (x ∈ zs)) = _
    by_cases e : z = x
    · subst e
      simp
    · have h1 : (z == x) = false := beq_eq_false_iff_ne.mpr e
      rw [h1, Bool.false_or, Bool.eq_iff_iff, decide_eq_true_iff, decide_eq_true_iff, List.mem_cons]
      exact ⟨.inr, fun h => h.resolve_left fun y => e y.symm⟩
theorem box_get (c : Lc) (x : Str) : (valV (c.boxes.map fun x => ((Sum.inr x : Key), V.str "")) (.inr x)).isSome = decide (x ∈ c.boxes) := by
  generalize c.boxes = zs
  induction zs with
  | nil => rfl
  | cons z zs ih =>
    by_cases e : z = x
    · rw [List.map_cons, valV_pos (by rw [e])]
      simp [e]
    · rw [List.map_cons, valV_neg (fun y => e (Sum.inr.inj y)), ih]
      simp [Ne.symm e]
theorem own_get (c : Lc) (x : Str) : valV (c.owners.map fun p => ((Sum.inr p.1 : Key), V.str p.2)) (.inr x) = (lkp c.owners x).map V.str := val_lkp (g := fun x : Str => (Sum.inr x : Key)) (fun _ _ e => Sum.inr.inj e) V.str x c.owners
/-! ### names that are known -/
def BoxOk (c : Lc) (hand : Str) (setting : Bool) (x : Str) : Prop := x ∈ c.boxes ∨ lkp c.owners x = some hand ∨ (setting = false ∧ x ∈ c.locks)
def AnyOk (c : Lc) (x : Str) : Prop := x ∈ c.boxes ∨ x ∈ c.locks ∨ x ∈ c.owners.map (·.1)
def spWantB (K : PySem.W.Frag) (C : Addr) : Sp := Sp3 fun self name setting H Q => ∃ (c : Lc) (s : Ls) (F : Hp) (x : Str) (b : Bool), self = .ref c.l ∧ LyAt K C c s F H ∧ name = .str x ∧ setting = .bl b ∧ BoxOk c s.hand b x ∧ Q .non H
def spWantL (K : PySem.W.Frag) (C : Addr) : Sp := Sp2 fun self name H Q => ∃ (c : Lc) (s : Ls) (F : Hp) (x : Str), self = .ref c.l ∧ LyAt K C c s F H ∧ name = .str x ∧ x ∈ c.locks ∧ Q .non H
def spWantA (K : PySem.W.Frag) (C : Addr) : Sp := Sp2 fun self name H Q => ∃ (c : Lc) (s : Ls) (F : Hp) (x : Str), self = .ref c.l ∧ LyAt K C c s F H ∧ name = .str x ∧ AnyOk c x ∧ Q .non H
theorem ok_wantL (F : MetAt K C "want_lock" "Laying.want_lock" s_Laying_want_lock) (G : Glb K mg) (L : LCls K C) : Met P w K mg base C "want_lock" 1 ["self", "name"] (spWantL K C) := by
  refine F.met sc_Laying_want_lock Sp2.len (fun _ _ _ _ _ _ us hl => match us, hl with | [_, _], _ => rfl) fun f cdv A outer s H vs Q E hr h => ?_
  have nd := sc_Laying_want_lock.nd
  have hu := hu_of hr
  refine ⟨_, (pss_one (ps_if (pt_cmpR op_notIn_seq (pv 1) (pe_fld (pv 0) rfl) (by rfl)) pss_never pss_nil)), ?_⟩
  obtain ⟨self, name, rfl, c, s, F0, x, rfl, a, rfl, hx, q⟩ := h
  have n1 := L.na "locks" (by decide +kernel)
  refine ⟨_, rfl, _, rfl, _, _, _, _, _, rfl, a.at_, L.cls, n1, lk_locks c s, _, _, rfl, .inl (SqL.of (a.fh _ _ a.ll)), rfl, flat_strs _, ?_⟩
  rw [in_strs, decide_eq_true hx]
  exact ⟨_, rfl, q⟩
theorem ok_wantA (F : MetAt K C "want_any" "Laying.want_any" s_Laying_want_any) (G : Glb K mg) (L : LCls K C) : Met P w K mg base C "want_any" 1 ["self", "name"] (spWantA K C) := by
  refine F.met sc_Laying_want_any Sp2.len (fun _ _ _ _ _ _ us hl => match us, hl with | [_, _], _ => rfl) fun f cdv A outer s H vs Q E hr h => ?_
  have nd := sc_Laying_want_any.nd
  have hu := hu_of hr
  refine ⟨_, (pss_one (ps_if (PW.pt (pw_and (pt_cmp (pc_dnotin hu (pv 1) (pe_fld (pv 0) rfl))) (pw_and (pt_cmpR op_notIn_seq (pv 1) (pe_fld (pv 0) rfl) (by rfl)) (pw_and1 (pt_cmp (pc_dnotin hu (pv 1) (pe_fld (pv 0) rfl))))))) pss_never pss_nil)), ?_⟩
  obtain ⟨self, name, rfl, c, s, F0, x, rfl, a, rfl, hx, q⟩ := h
  have n1 := L.na "locks" (by decide +kernel)
  have n2 := L.na "boxes" (by decide +kernel)
  have n3 := L.na "owners" (by decide +kernel)
  refine ⟨_, rfl, _, rfl, _, _, _, _, _, rfl, a.at_, L.cls, n2, lk_boxes c s, _, _, rfl, DGet.k (k := .inr x) (a.fh _ _ a.bd), ?_⟩
  rw [box_get]
  by_cases h1 : x ∈ c.boxes
  · rw [decide_eq_true h1]
    exact ⟨_, rfl, q⟩
  rw [decide_eq_false h1]
  refine ⟨_, rfl, _, rfl, _, rfl, _, _, _, _, _, rfl, a.at_, L.cls, n1, lk_locks c s, _, _, rfl, .inl (SqL.of (a.fh _ _ a.ll)), rfl, flat_strs _, ?_⟩
  rw [in_strs]
  by_cases h2 : x ∈ c.locks
  · rw [decide_eq_true h2]
    exact ⟨_, rfl, q⟩
  rw [decide_eq_false h2]
  refine ⟨_, rfl, _, rfl, _, rfl, _, _, _, _, _, rfl, a.at_, L.cls, n3, lk_owners c s, _, _, rfl, DGet.k (k := .inr x) (a.fh _ _ a.od), ?_⟩
  rw [own_get]
  have h3 : x ∈ c.owners.map (·.1) := hx.elim (fun z => absurd z h1) fun z => z.elim (fun z => absurd z h2) id
  cases e : lkp c.owners x with
  | none => exact absurd h3 (lkp_none.mp e)
  | some y => exact ⟨_, rfl, q⟩
theorem ok_wantB (F : MetAt K C "want_box" "Laying.want_box" s_Laying_want_box) (G : Glb K mg) (L : LCls K C) : Met P w K mg base C "want_box" 1 ["self", "name", "setting"] (spWantB K C) := by
  refine F.met sc_Laying_want_box Sp3.len (fun _ _ _ _ _ _ us hl => match us, hl with | [_, _, _], _ => rfl) fun f cdv A outer s H vs Q E hr h => ?_
  have nd := sc_Laying_want_box.nd
  have hu := hu_of hr
  refine ⟨_, (pss_cons (ps_if (PW.pt (pw_or (pt_cmp (pc_din hu (pv 1) (pe_fld (pv 0) rfl))) (pw_or1 (pt_cmpR op_eq (pe_dget1 hu (pe_fld (pv 0) rfl) (pv 1) ⟨rfl, rfl, rfl, rfl⟩) (pe_fld (pv 0) rfl) (nomark _))))) (pss_one ps_retN) pss_nil)
    (pss_one (ps_if (PW.pt (pw_or (pt_val (pv 2)) (pw_or1 (pt_cmpR op_notIn_seq (pv 1) (pe_fld (pv 0) rfl) (by rfl))))) pss_never pss_nil))), ?_⟩
  obtain ⟨self, name, setting, rfl, c, s, F0, x, b, rfl, a, rfl, rfl, hx, q⟩ := h
  have n1 := L.na "locks" (by decide +kernel)
  have n2 := L.na "boxes" (by decide +kernel)
  have n3 := L.na "owners" (by decide +kernel)
  have n4 := L.na "hand" (by decide +kernel)
  refine ⟨_, rfl, _, rfl, _, _, _, _, _, rfl, a.at_, L.cls, n2, lk_boxes c s, _, _, rfl, DGet.k (k := .inr x) (a.fh _ _ a.bd), ?_⟩
  rw [box_get]
  by_cases h1 : x ∈ c.boxes
  · rw [decide_eq_true h1]
    exact ⟨_, rfl, q⟩
  rw [decide_eq_false h1]
  refine ⟨_, rfl, _, rfl, _, _, _, _, _, rfl, a.at_, L.cls, n3, lk_owners c s, _, rfl, .inl ⟨_, .inl (a.fh _ _ a.od)⟩, _, rfl, _, DGet.k (k := .inr x) (a.fh _ _ a.od), ?_⟩
  refine ⟨_, rfl, _, _, _, _, _, rfl, a.at_, L.cls, n4, lk_hand c s, ?_⟩
  rw [own_get]
  cases e : lkp c.owners x with
  | none =>
    refine ⟨rfl, ?_⟩
    have hd : decide ((((none : Option Str).map V.str).getD V.non) = V.str s.hand) = false := decide_eq_false (fun z => nomatch z)
    rw [hd]
    obtain ⟨rfl, h3⟩ : b = false ∧ x ∈ c.locks := hx.elim (fun z => absurd z h1) fun z => z.elim (fun z => by rw [e] at z; cases z) id
    refine ⟨_, rfl, _, rfl, _, rfl, _, rfl, _, rfl, _, _, _, _, _, rfl, a.at_, L.cls, n1, lk_locks c s, _, _, rfl, .inl (SqL.of (a.fh _ _ a.ll)), rfl, flat_strs _, ?_⟩
    rw [in_strs, decide_eq_true h3]
    exact ⟨_, rfl, q⟩
  | some y =>
    refine ⟨rfl, ?_⟩
    by_cases hy : y = s.hand
    · have hd : decide ((((some y : Option Str).map V.str).getD V.non) = V.str s.hand) = true := decide_eq_true (by rw [hy]; rfl)
      rw [hd]
      exact ⟨_, rfl, q⟩
    · have hd : decide ((((some y : Option Str).map V.str).getD V.non) = V.str s.hand) = false := decide_eq_false (fun z => hy (V.str.inj z))
      rw [hd]
      obtain ⟨rfl, h3⟩ : b = false ∧ x ∈ c.locks := hx.elim (fun z => absurd z h1) fun z => z.elim (fun z => by rw [e] at z; cases z; exact absurd rfl hy) id
      refine ⟨_, rfl, _, rfl, _, rfl, _, rfl, _, rfl, _, _, _, _, _, rfl, a.at_, L.cls, n1, lk_locks c s, _, _, rfl, .inl (SqL.of (a.fh _ _ a.ll)), rfl, flat_strs _, ?_⟩
      rw [in_strs, decide_eq_true h3]
      exact ⟨_, rfl, q⟩
/-! ### a step more -/
theorem Das.perm {K : PySem.W.Frag} {F : Hp} {α : Type} {g : α → PyData} {xs ys : List V} {ss : List α} (h : Das K F xs (ss.map g)) (p : ys.Perm xs) : ∃ ss' : List α, ss'.Perm ss ∧ Das K F ys (ss'.map g) := by
  have hl := h.lenM
  obtain ⟨l, hl1, hl2⟩ := perm_lift Prod.fst p (xs.zip ss) (List.map_fst_zip (Nat.le_of_eq hl))
  have hz : ∀ (xs : List V) (ss : List α), Das K F xs (ss.map g) → ∀ q ∈ xs.zip ss, Da K F q.1 (g q.2) := by
    intro xs
    induction xs with
    | nil => intro ss _ q hq; simp at hq
    | cons x xs ih =>
      intro ss h q hq
      cases ss with
      | nil => simp at hq
      | cons s ss =>
        cases h with
        | cons h1 h2 =>
          rw [List.zip_cons_cons] at hq
          rcases List.mem_cons.mp hq with rfl | hq
          · exact h1
          · exact ih ss h2 q hq
  have ho : ∀ l : List (V × α), (∀ q ∈ l, Da K F q.1 (g q.2)) → Das K F (l.map Prod.fst) ((l.map Prod.snd).map g) := by
    intro l
    induction l with
    | nil => intro _; exact .nil
    | cons q l ih => intro h; exact .cons (h q List.mem_cons_self) (ih fun x hx => h x (List.mem_cons_of_mem _ hx))
  refine ⟨l.map Prod.snd, ?_, ?_⟩
  · have z := hl1.map Prod.snd
    rw [List.map_snd_zip (Nat.le_of_eq hl.symm)] at z
    exact z
  · rw [← hl2]
    exact ho l fun q hq => hz xs ss h q (hl1.mem_iff.mp hq)
theorem sd_at {K : PySem.W.Frag} {F : Hp} {v : V} {p : Str × Sm} (h : Da K F v (sd p)) : ∃ t u, v = .ref t ∧ SqT K F t [.str p.1, u] ∧ Da K F u p.2.d := by
  obtain ⟨a, x, y, rfl, h1, h2, h3⟩ := h.tup2
  cases h2.str_inv
  exact ⟨a, y, rfl, h1, h3⟩
end
end Ca
namespace Ca
open PySem L2
abbrev s_want_remark : Stmt := top 25
abbrev N_want_remark : List Str := ["laying", "remark", "any_box", "one", "box"]
theorem sc_want_remark : FnScope N_want_remark ["laying", "remark", "any_box"] (defScope s_want_remark) := ⟨rfl, rfl, rfl, by decide +kernel, rfl, by decide +kernel, by decide +kernel⟩
-- cells: []  slots: 0=laying 1=remark 2=any_box 3=one 4=box
abbrev s_lay_mark : Stmt := top 26
abbrev N_lay_mark : List Str := ["laying", "row", "place", "key"]
theorem sc_lay_mark : FnScope N_lay_mark ["laying", "row", "place"] (defScope s_lay_mark) := ⟨rfl, rfl, rfl, by decide +kernel, rfl, by decide +kernel, by decide +kernel⟩
-- cells: []  slots: 0=laying 1=row 2=place 3=key
section
variable {P : Program} {w : World} {K : PySem.W.Frag} {mg : Str → Option Value} {base : Heap} {C : Addr} {c : Lc} {s : Ls} {F H : Hp}
theorem upd_at {H : Hp} {p b : Addr} {o u : HO} (e : H b = some o) (n : b ≠ p) : upd H p u b = some o := by
  rw [upd_ne n]
  exact e
theorem ne_kind {H : Hp} {a b : Addr} {o u : HO} (h : H a = some o) (k : H b = some u) (n : o ≠ u) : a ≠ b := fun e => by
  rw [e, k] at h
  cases h
  exact n rfl
/-- a step more -/
theorem LyAt.putS (a : LyAt K C c s F H) {vs : List V} {v : V} {st : Stp} (hv : Da K F v st.d) (hs : H c.sl = some (.lst vs)) (hd : Das K F vs (s.steps.map Stp.d)) (hg : ∃ N, st.guard.Ok N c.hands 3) :
    LyAt K C c { s with steps := s.steps ++ [st], bud := s.bud + 1 } F (upd H c.sl (.lst (vs ++ [v]))) := by
  have a' := a.budM (b := s.bud + 1) (by omega)
  obtain ⟨us, h3, h4⟩ := a.al
  refine ⟨a.fh.mut a.ns, upd_at a.at_ (ne_kind a.at_ hs (fun z => nomatch z)), a.nl, a.hl, a.ll, a.bd, a.od, ⟨_, upd_same, ?_⟩, a.ns, ?_, ?_, upd_at a.ld (ne_kind a.ld hs (fun z => nomatch z)), a.nld, a'.ldl, upd_at a.yd (ne_kind a.yd hs (fun z => nomatch z)), a.nyd, a'.ydl, fun p hp => ?_, a.yn, ⟨us, upd_at h3 a.ne.1.symm, h4⟩, a.nal, a'.all_, a.ask, a.ne⟩
  · show Das K F _ ((s.steps ++ [st]).map Stp.d)
    rw [List.map_append]
    exact hd.app (.cons hv .nil)
  · show (s.steps ++ [st]).length ≤ s.bud + 1
    rw [List.length_append]
    exact Nat.succ_le_succ a.nsl
  · intro x hx
    rcases List.mem_append.mp hx with hx | hx
    · exact a.gd x hx
    · rw [List.mem_singleton.mp hx]
      exact hg
  · obtain ⟨y1, y2, ⟨ws, y3, y4⟩, y5⟩ := a'.ys p hp
    exact ⟨y1, y2, ⟨ws, upd_at y3 fun z => a.ne.2.2.1 (z ▸ List.mem_map.mpr ⟨p, hp, rfl⟩), y4⟩, y5⟩
/-- more that is asked -/
theorem LyAt.putA (a : LyAt K C c s F H) {vs zs : List V} {as : List (Str × PyData)} (hz : Das K F zs (as.map atd)) (hs : H c.al = some (.lst vs)) (hd : Das K F vs (s.asked.map atd)) (hg : ∀ x ∈ as, x.1 ∈ c.hands ∧ LabT x.2) {b : Nat} (hb : s.bud + as.length ≤ b) :
    LyAt K C c { s with asked := s.asked ++ as, bud := b } F (upd H c.al (.lst (vs ++ zs))) := by
  have a' := a.budM (b := b) (by omega)
  obtain ⟨us, h3, h4⟩ := a.sl
  refine ⟨a.fh.mut a.nal, upd_at a.at_ (ne_kind a.at_ hs (fun z => nomatch z)), a.nl, a.hl, a.ll, a.bd, a.od, ⟨us, upd_at h3 a.ne.1, h4⟩, a.ns, a'.nsl, a.gd, upd_at a.ld (ne_kind a.ld hs (fun z => nomatch z)), a.nld, a'.ldl, upd_at a.yd (ne_kind a.yd hs (fun z => nomatch z)), a.nyd, a'.ydl, fun p hp => ?_, a.yn, ⟨_, upd_same, ?_⟩, a.nal, ?_, ?_, a.ne⟩
  · obtain ⟨y1, y2, ⟨ws, y3, y4⟩, y5⟩ := a'.ys p hp
    exact ⟨y1, y2, ⟨ws, upd_at y3 fun z => a.ne.2.2.2 (z ▸ List.mem_map.mpr ⟨p, hp, rfl⟩), y4⟩, y5⟩
  · show Das K F _ ((s.asked ++ as).map atd)
    rw [List.map_append]
    exact hd.app hz
  · show (s.asked ++ as).length ≤ b
    rw [List.length_append]
    have := a.all_
    omega
  · intro x hx
    rcases List.mem_append.mp hx with hx | hx
    · exact a.ask x hx
    · exact hg x hx
/-- a label more -/
theorem LyAt.putL (a : LyAt K C c s F H) {k : Str × Str} {i : Int} :
    LyAt K C c { s with labels := s.labels ++ [(k, i)], bud := s.bud + 1 } F (upd H c.ld (.dT (s.labels.map labK ++ [labK (k, i)]))) := by
  have a' := a.budM (b := s.bud + 1) (by omega)
  obtain ⟨us, h3, h4⟩ := a.al
  obtain ⟨vs, h1, h2⟩ := a.sl
  refine ⟨a.fh.mut a.nld, upd_at a.at_ (ne_kind a.at_ a.ld (fun z => nomatch z)), a.nl, a.hl, a.ll, a.bd, a.od, ⟨vs, upd_at h1 (ne_kind h1 a.ld (fun z => nomatch z)), h2⟩, a.ns, a'.nsl, a.gd, ?_, a.nld, ?_, upd_at a.yd a.ne.2.1.symm, a.nyd, a'.ydl, fun p hp => ?_, a.yn, ⟨us, upd_at h3 (ne_kind h3 a.ld (fun z => nomatch z)), h4⟩, a.nal, a'.all_, a.ask, a.ne⟩
  · show _ = some (HO.dT ((s.labels ++ [(k, i)]).map labK))
    rw [List.map_append, upd_same]
    rfl
  · show (s.labels ++ [(k, i)]).length ≤ s.bud + 1
    rw [List.length_append]
    exact Nat.succ_le_succ a.ldl
  · obtain ⟨y1, y2, ⟨ws, y3, y4⟩, y5⟩ := a'.ys p hp
    exact ⟨y1, y2, ⟨ws, upd_at y3 (ne_kind y3 a.ld (fun z => nomatch z)), y4⟩, y5⟩
/-- a new list of says -/
theorem LyAt.putY (a : LyAt K C c s F H) {k : Str × Int} {q : Addr} (hq : H q = some (.lst [])) (hF : F q = none) (hn : ¬ own c s q) :
    LyAt K C c { s with says := s.says ++ [(k, q, [])], bud := s.bud + 1 } F (upd H c.yd (.dT (s.says.map sayK ++ [sayK (k, q, [])]))) := by
  have a' := a.budM (b := s.bud + 1) (by omega)
  obtain ⟨us, h3, h4⟩ := a.al
  obtain ⟨vs, h1, h2⟩ := a.sl
  refine ⟨a.fh.mut a.nyd, upd_at a.at_ (ne_kind a.at_ a.yd (fun z => nomatch z)), a.nl, a.hl, a.ll, a.bd, a.od, ⟨vs, upd_at h1 (ne_kind h1 a.yd (fun z => nomatch z)), h2⟩, a.ns, a'.nsl, a.gd, upd_at a.ld a.ne.2.1, a.nld, a'.ldl, ?_, a.nyd, ?_, fun p hp => ?_, ?_, ⟨us, upd_at h3 (ne_kind h3 a.yd (fun z => nomatch z)), h4⟩, a.nal, a'.all_, a.ask, ?_⟩
  · show _ = some (HO.dT ((s.says ++ [(k, q, [])]).map sayK))
    rw [List.map_append, upd_same]
    rfl
  · show (s.says ++ [(k, q, [])]).length ≤ s.bud + 1
    rw [List.length_append]
    exact Nat.succ_le_succ a.ydl
  · rcases List.mem_append.mp hp with hp | hp
    · obtain ⟨y1, y2, ⟨ws, y3, y4⟩, y5⟩ := a'.ys p hp
      exact ⟨y1, y2, ⟨ws, upd_at y3 (ne_kind y3 a.yd (fun z => nomatch z)), y4⟩, y5⟩
    · rw [List.mem_singleton.mp hp]
      exact ⟨hF, Nat.zero_le _, ⟨[], upd_at hq (ne_kind hq a.yd (fun z => nomatch z)), .nil⟩, fun r hr => nomatch hr⟩
  · show ((s.says ++ [(k, q, ([] : List Rk))]).map (fun p : (Str × Int) × Addr × List Rk => p.2.1)).Nodup
    rw [List.map_append]
    refine List.nodup_append.mpr ⟨a.yn, List.nodup_cons.mpr ⟨List.not_mem_nil, List.nodup_nil⟩, fun x hx y hy => ?_⟩
    rw [List.mem_singleton.mp (show y ∈ [q] from hy)]
    intro e
    exact hn (.inr (.inr (.inr (.inr (.inr (e ▸ hx))))))
  · refine ⟨a.ne.1, a.ne.2.1, fun z => ?_, fun z => ?_⟩
    · rw [List.map_append] at z
      rcases List.mem_append.mp z with z | z
      · exact a.ne.2.2.1 z
      · exact hn (.inr (.inl (List.mem_singleton.mp z).symm))
    · rw [List.map_append] at z
      rcases List.mem_append.mp z with z | z
      · exact a.ne.2.2.2 z
      · exact hn (.inr (.inr (.inr (.inr (.inl (List.mem_singleton.mp z).symm)))))
def sayPut (q : Addr) (r : Rk) (p : (Str × Int) × Addr × List Rk) : (Str × Int) × Addr × List Rk := if p.2.1 = q then (p.1, p.2.1, p.2.2 ++ [r]) else p
theorem sayPut_k (q : Addr) (r : Rk) (l : List ((Str × Int) × Addr × List Rk)) : (l.map (sayPut q r)).map sayK = l.map sayK ∧ (l.map (sayPut q r)).map (·.2.1) = l.map (·.2.1) := by
  constructor
  · rw [List.map_map]
    refine List.map_congr_left fun p _ => ?_
    show sayK (sayPut q r p) = sayK p
    unfold sayPut
    by_cases e : p.2.1 = q
    · rw [if_pos e]
      rfl
    · rw [if_neg e]
  · rw [List.map_map]
    refine List.map_congr_left fun p _ => ?_
    show (sayPut q r p).2.1 = p.2.1
    unfold sayPut
    by_cases e : p.2.1 = q
    · rw [if_pos e]
    · rw [if_neg e]
/-- a say more in its list -/
theorem LyAt.addY (a : LyAt K C c s F H) {q : Addr} {vs : List V} {v : V} {r : Rk} (hv : Da K F v r.d) (ho : ∃ N, r.Ok N c.hands 2) (hm : q ∈ s.says.map (·.2.1)) (hs : H q = some (.lst vs)) (hd : ∀ p ∈ s.says, p.2.1 = q → Das K F vs (p.2.2.map Rk.d)) :
    LyAt K C c { s with says := s.says.map (sayPut q r), bud := s.bud + 1 } F (upd H q (.lst (vs ++ [v]))) := by
  have a' := a.budM (b := s.bud + 1) (by omega)
  obtain ⟨us, h3, h4⟩ := a.al
  obtain ⟨ts, h1, h2⟩ := a.sl
  obtain ⟨k1, k2⟩ := sayPut_k q r s.says
  have nq : F q = none := by
    obtain ⟨p, hp, e⟩ := List.mem_map.mp hm
    rw [← e]
    exact (a.ys p hp).1
  refine ⟨a.fh.mut nq, upd_at a.at_ (ne_kind a.at_ hs (fun z => nomatch z)), a.nl, a.hl, a.ll, a.bd, a.od, ⟨ts, upd_at h1 fun z => a.ne.2.2.1 (z ▸ hm), h2⟩, a.ns, a'.nsl, a.gd, upd_at a.ld (ne_kind a.ld hs (fun z => nomatch z)), a.nld, a'.ldl, ?_, a.nyd, ?_, fun p hp => ?_, ?_, ⟨us, upd_at h3 fun z => a.ne.2.2.2 (z ▸ hm), h4⟩, a.nal, a'.all_, a.ask, ?_⟩
  · show _ = some (HO.dT ((s.says.map (sayPut q r)).map sayK))
    rw [k1]
    exact upd_at a.yd (ne_kind a.yd hs (fun z => nomatch z))
  · show (s.says.map (sayPut q r)).length ≤ s.bud + 1
    rw [List.length_map]
    have := a.ydl
    omega
  · obtain ⟨p0, hp0, rfl⟩ := List.mem_map.mp hp
    obtain ⟨y1, y2, ⟨ws, y3, y4⟩, y5⟩ := a.ys p0 hp0
    unfold sayPut
    by_cases e : p0.2.1 = q
    · rw [if_pos e]
      refine ⟨y1, ?_, ⟨vs ++ [v], by rw [e]; exact upd_same, ?_⟩, fun x hx => ?_⟩
      · show (p0.2.2 ++ [r]).length ≤ s.bud + 1
        rw [List.length_append]
        exact Nat.succ_le_succ y2
      · show Das K F _ ((p0.2.2 ++ [r]).map Rk.d)
        rw [List.map_append]
        exact (hd p0 hp0 e).app (.cons hv .nil)
      · rcases List.mem_append.mp hx with hx | hx
        · exact y5 x hx
        · rw [List.mem_singleton.mp hx]
          exact ho
    · rw [if_neg e]
      exact ⟨y1, Nat.le_succ_of_le y2, ⟨ws, upd_at y3 e, y4⟩, y5⟩
  · show ((s.says.map (sayPut q r)).map (·.2.1)).Nodup
    rw [k2]
    exact a.yn
  · refine ⟨a.ne.1, a.ne.2.1, ?_, ?_⟩
    · show c.sl ∉ (s.says.map (sayPut q r)).map (·.2.1)
      rw [k2]
      exact a.ne.2.2.1
    · show c.al ∉ (s.says.map (sayPut q r)).map (·.2.1)
      rw [k2]
      exact a.ne.2.2.2
def spAdd (K : PySem.W.Frag) (C : Addr) : Sp := Sp5 fun self start guard sets to H Q => ∃ (c : Lc) (s : Ls) (F : Hp) (p q : Int) (g : Rk) (a : Addr) (xs : List V) (ss : List (Str × Sm)), self = .ref c.l ∧ LyAt K C c s F H ∧ start = .int p ∧ to = .int q ∧ Da K F guard g.d ∧ (∃ N, g.Ok N c.hands 3) ∧
  sets = .ref a ∧ H a = some (.lst xs) ∧ Das K F xs (ss.map sd) ∧ (ss.map (·.1)).Nodup ∧ ss.length ≤ 10 ∧ s.bud + 1 ≤ 16000000 ∧
  ∀ F' H' ss', Gr (own c s) F H F' H' → ss'.Perm ss → LyAt K C c { s with steps := s.steps ++ [⟨s.hand, p, g, ss', q⟩], bud := s.bud + 1 } F' H' → Q .non H'
theorem zs_of : ∀ {xs : List V} {ss : List (Str × Sm)}, Das K F xs (ss.map sd) → ∃ zs : List (Addr × Str × V), xs = zs.map (fun z => V.ref z.1) ∧ (∀ z ∈ zs, SqT K F z.1 [.str z.2.1, z.2.2]) ∧ zs.map (fun z => z.2.1) = ss.map (·.1)
  | _, [], .nil => ⟨[], rfl, (fun z hz => nomatch hz), rfl⟩
  | _, p :: ss, .cons h1 h2 => by
    obtain ⟨zs, e1, e2, e3⟩ := zs_of h2
    obtain ⟨t, u, rfl, h3, h4⟩ := sd_at h1
    refine ⟨(t, p.1, u) :: zs, by rw [e1]; rfl, fun z hz => ?_, by rw [List.map_cons, List.map_cons, e3]⟩
    rcases List.mem_cons.mp hz with rfl | hz
    · exact h3
    · exact e2 z hz
end
section
variable {P : Program} {w : World} {K : PySem.W.Frag} {mg : Str → Option Value} {base : Heap} {C : Addr}
theorem ok_add (F : MetAt K C "add_step" "Laying.add_step" s_Laying_add_step) (G : Glb K mg) (L : LCls K C) : Met P w K mg base C "add_step" 1 ["self", "start", "guard", "sets", "to"] (spAdd K C) := by
  refine F.met sc_Laying_add_step Sp5.len (fun _ _ _ _ _ _ us hl => match us, hl with | [_, _, _, _, _], _ => rfl) fun f cdv A outer s H vs Q E hr h => ?_
  have nd := sc_Laying_add_step.nd
  have hu := hu_of hr
  have m_sorted := G.sorted
  have m_tuple := G.tuple
  refine ⟨_, (pss_one (ps_expr (pe_bm PySem.F.plainAttrs_list PySem.F.slot_list_append PySem.F.type_list_append mt_append (pe_fld (pv 0) rfl) (pa_cons (pe_tup (pa_cons (pe_fld (pv 0) rfl) (pa_cons (pv 1) (pa_cons (pv 2) (pa_cons (pe_callTy call_tuple_of (by rfl) m_tuple (by decide +kernel) (pa_cons (pe_callB cr_sortedTS (by rfl) m_sorted (by decide +kernel) (pa_cons (pv 3) pa_nil)) pa_nil)) (pa_cons (pv 4) pa_nil)))))) pa_nil)))), ?_⟩
  obtain ⟨self, start, guard, sets, to, rfl, c, s, F0, p, q, g, a, xs, ss, rfl, ly, rfl, rfl, hg, hgo, rfl, hH, hd, hnd, hl, hb, post⟩ := h
  have n1 := L.na "steps" (by decide +kernel)
  have n2 := L.na "hand" (by decide +kernel)
  obtain ⟨zs, rfl, hz1, hz2⟩ := zs_of hd
  have hzl : zs.length = ss.length := by
    have e := congrArg List.length hz2
    rw [List.length_map, List.length_map] at e
    exact e
  obtain ⟨vs, h1, h2⟩ := ly.sl
  refine ⟨_, rfl, _, _, _, _, _, rfl, ly.at_, L.cls, n1, lk_steps c s, .inl ⟨rfl, vs, SqL.of h1⟩, _, rfl, _, _, _, _, _, rfl, ly.at_, L.cls, n2, lk_hand c s, _, rfl, _, rfl, _, rfl, a, zs, rfl, SqL.of hH, by omega, fun z hz => ly.fh.tup (hz1 z hz), by rw [hz2]; exact hnd, fun ys p1 hp hp1 => ?_⟩
  have e1 : Same H (upd H p1 (.lst ys)) := Same.new hp1
  refine ⟨p1, ys, rfl, .inl ⟨SqL.of upd_same, fun l hl' => ⟨_, rfl, (by show 5 ≤ sizeLine; decide), fun t ht => ?_⟩⟩⟩
  have e2 := e1.trans (Same.new (o := .tup ys) hl')
  have e3 := e2.trans (Same.new (o := .tup [.str s.hand, .int p, guard, .ref l, .int q]) ht)
  refine ⟨_, _, _, rfl, rfl, e3 _ _ h1, ?_, ?_⟩
  · have hlen := h2.lenM
    have := ly.nsl
    rw [sizeLine_eq]
    omega
  obtain ⟨ss', hss, hdy⟩ := hd.perm hp
  have ly3 := ((ly.new (o := .lst ys) hp1).newF (o := .tup ys) hl').newF (o := .tup [.str s.hand, .int p, guard, .ref l, .int q]) ht
  have gr := ((((Gr.refl (O := own c s) ly.fh).new (o := .lst ys) hp1).newF (o := .tup ys) hl').newF (o := .tup [.str s.hand, .int p, guard, .ref l, .int q]) ht).set (o := .lst (vs ++ [.ref t])) ly3.ns (e3 _ _ h1) (.inl (.inr (.inl rfl)))
  refine post _ _ ss' gr hss (ly3.putS (st := ⟨s.hand, p, g, ss', q⟩) ?_ (e3 _ _ h1) (h2.mono gr.ff) hgo)
  have f2 : Same (upd F0 l (.tup ys)) (upd (upd F0 l (.tup ys)) t (.tup [.str s.hand, .int p, guard, .ref l, .int q])) := Same.new (((ly.new (o := .lst ys) hp1).newF (o := .tup ys) hl').fh.free ht)
  exact .tup (SqT.of upd_same) (.cons (.str _) (.cons (.int _) (.cons (hg.mono gr.ff) (.cons (.tup (f2.tup (SqT.of upd_same)) (hdy.mono gr.ff)) (.cons (.int _) .nil)))))
end
end Ca
namespace Ca
open PySem L2
theorem Gr.same {O : Addr → Prop} {F H F1 H1 H2 : Hp} (a : Gr O F H F1 H1) (e : Same H1 H2) : Gr O F H F1 H2 :=
  ⟨a.ff, a.fh.trans e, fun b o h n => e _ _ (a.kp b o h n), fun b h => a.th b (e.free h), a.fr⟩
section
variable {P : Program} {w : World} {K : PySem.W.Frag} {mg : Str → Option Value} {base : Heap} {C : Addr}
/-- the names of a remark's sums are known -/
def NmOk (c : Lc) (hand : Str) (b : Bool) (r : Rk) : Prop := ∀ sm ∈ r.sums, sm.parts.length ≤ 10 ∧ ∀ p ∈ sm.parts, if b = true then AnyOk c p.1 else BoxOk c hand false p.1
def spWantR (K : PySem.W.Frag) (C : Addr) : Sp := Sp3 fun laying remark any_box H Q => ∃ (c : Lc) (s : Ls) (F : Hp) (r : Rk) (b : Bool), laying = .ref c.l ∧ LyAt K C c s F H ∧ Da K F remark r.d ∧ any_box = .bl b ∧ r.Sz 2 ∧ NmOk c s.hand b r ∧ (∀ x ∈ r.ats, x.1 ∈ c.hands ∧ LabT x.2) ∧ s.bud + 100 ≤ 16000000 ∧
  ∀ H', Gr (own c s) F H F H' → LyAt K C c { s with asked := s.asked ++ r.ats, bud := s.bud + 100 } F H' → Q .non H'
theorem ok_wantR (F : FunAt K mg "want_remark" s_want_remark) (G : Glb K mg) (L : LCls K C) (c_sums_in : Cal P w K mg base "sums_in" 3 ["remark"] (spSums K 2)) (c_ats_in : Cal P w K mg base "ats_in" 3 ["remark"] (spAts K 2))
    (c_boxes_of : Cal P w K mg base "boxes_of" 1 ["one"] (spBoxesOf K)) (c_want_any : Met P w K mg base C "want_any" 1 ["self", "name"] (spWantA K C)) (c_want_box : Met P w K mg base C "want_box" 1 ["self", "name", "setting"] (spWantB K C)) :
    Cal P w K mg base "want_remark" 4 ["laying", "remark", "any_box"] (spWantR K C) := by
  refine F.cal sc_want_remark Sp3.len (fun _ _ _ _ _ _ us hl => match us, hl with | [_, _, _], _ => rfl) fun f cdv A outer s H vs Q E hr h => ?_
  have nd := sc_want_remark.nd
  have hu := hu_of hr
  refine ⟨_, (pss_cons (ps_for PassesOwn.never rfl (pi_list (pe_cal c_sums_in hr rfl (pa_cons (pv 1) pa_nil))) (pg_name (i := 3) nd rfl (Or.inl rfl))
      (pss_one (ps_for PassesOwn.never rfl (pi_list (pe_cal c_boxes_of hr rfl (pa_cons (pv 3) pa_nil))) (pg_name (i := 4) nd rfl (Or.inl rfl))
        (pss_one (ps_if (pt_val (pv 2)) (pss_one (ps_expr (pe_calm c_want_any hr (pv 0) (pa_cons (pv 4) pa_nil)))) (pss_one (ps_expr (pe_calm c_want_box hr (pv 0) (pa_cons (pv 4) (pa_cons pe_bl pa_nil))))))))))
    (pss_one (ps_expr (pe_bm PySem.F.plainAttrs_list PySem.F.slot_list_extend PySem.F.type_list_extend mt_extend (pe_fld (pv 0) rfl) (pa_cons (pe_cal c_ats_in hr rfl (pa_cons (pv 1) pa_nil)) pa_nil))))), ?_⟩
  obtain ⟨laying, rem, any, rfl, c, s, F0, r, b, rfl, ly, h1, rfl, hsz, hnm, hats, hb, post⟩ := h
  have n1 := L.na "asked" (by decide +kernel)
  refine ⟨_, rfl, _, rfl, F0, r, ly.fh, h1, hsz, (by decide), fun p ys H1 hp e1 hp1 hys => ?_⟩
  refine ⟨p, rfl, ⟨_, SqL.of hp1⟩, for_list (K := K) (a := p) (xs := ys) (fun i σ H' => ∃ x y, σ = [some (.ref c.l), some rem, some (.bl b), x, y] ∧ Same H1 H') ⟨none, none, rfl, Same.refl _⟩ (fun i σ H' _ ⟨_, _, _, e⟩ => SqL.of (e _ _ hp1)) ?_ ?_⟩
  · rintro i v σ H' hi ⟨x, y, rfl, e2⟩
    obtain ⟨sm, hsm, hv⟩ := hys.getM hi
    have hsmm := List.mem_of_getElem? hsm
    obtain ⟨hl, hnames⟩ := hnm sm hsmm
    refine ⟨_, rfl, _, rfl, sm, hv.mono (ly.fh.trans (e1.trans e2)), by omega, fun p2 H2 hp2 e3 hp3 => ?_⟩
    refine ⟨p2, rfl, ⟨_, SqL.of hp3⟩, for_list (K := K) (a := p2) (xs := sm.parts.map fun p => V.str p.1) (fun i σ H' => ∃ x y, σ = [some (.ref c.l), some rem, some (.bl b), x, y] ∧ Same H2 H') ⟨some v, y, rfl, Same.refl _⟩ (fun i σ H' _ ⟨_, _, _, e⟩ => SqL.of (e _ _ hp3)) ?_ ?_⟩
    · rintro j u σ H3 hj ⟨x', y', rfl, e4⟩
      rw [List.getElem?_map] at hj
      cases hpj : sm.parts[j]? with
      | none =>
        rw [hpj] at hj
        cases hj
      | some q =>
        rw [hpj] at hj
        cases hj
        have hq := hnames q (List.mem_of_getElem? hpj)
        have ly3 := ly.same (((e1.trans e2).trans e3).trans e4)
        refine ⟨_, rfl, _, rfl, ?_⟩
        cases b with
        | true => exact ⟨_, rfl, c.l, c.dx, lyF c s, rfl, ly3.at_, rfl, _, rfl, _, _, rfl, c, s, F0, q.1, rfl, ly3, rfl, hq, _, _, rfl, e4⟩
        | false => exact ⟨_, rfl, c.l, c.dx, lyF c s, rfl, ly3.at_, rfl, _, rfl, _, _, _, rfl, c, s, F0, q.1, false, rfl, ly3, rfl, rfl, hq, _, _, rfl, e4⟩
    · rintro σ H3 ⟨x', y', rfl, e4⟩
      exact ⟨_, _, rfl, (e2.trans e3).trans e4⟩
  · rintro σ H2 ⟨x, y, rfl, e2⟩
    have ly2 := ly.same (e1.trans e2)
    obtain ⟨vs, g1, g2⟩ := ly2.al
    refine ⟨_, rfl, _, _, _, _, _, rfl, ly2.at_, L.cls, n1, lk_asked c s, .inl ⟨rfl, vs, SqL.of g1⟩, _, rfl, _, rfl, F0, r, ly2.fh, h1, hsz, (by decide), fun p3 zs H3 hp3 e3 hp4 hzs => ?_⟩
    have ly3 := ly2.same e3
    have hal := Rk.ats_len 2 r hsz
    have hvl := g2.lenM
    have hzl := hzs.lenM
    have := ly.all_
    refine ⟨_, p3, vs, zs, rfl, rfl, e3 _ _ g1, hp4, by rw [sizeLine_eq]; omega, ?_⟩
    exact post _ (((Gr.refl ly.fh).same ((e1.trans e2).trans e3)).set ly.nal (e3 _ _ g1) (.inl (.inr (.inr (.inr (.inr (.inl rfl))))))) (ly3.putA hzs (e3 _ _ g1) g2 hats (by omega))
end
end Ca
namespace Ca
open PySem L2
theorem putK_none {κ : Type} [DecidableEq κ] {k : κ} {v : V} : ∀ {kvs : List (κ × V)}, valV kvs k = none → putK kvs k v = kvs ++ [(k, v)] := fun {kvs} h => by
  unfold putK
  rw [if_neg]
  intro e
  obtain ⟨p, hp, hk⟩ := List.any_eq_true.mp e
  unfold valV at h
  rw [Option.map_eq_none_iff, List.find?_eq_none] at h
  exact h p hp hk
def wX : Nat → Nat
  | 0 => 0
  | n + 1 => 410 + 20 * wX n
/-- what the says' lists may be behind -/
def Says (s : Ls) (H : Hp) (ys : List ((Str × Int) × Addr × List Rk)) : Prop := ∀ b ∈ ys.map (·.2.1), b ∈ s.says.map (·.2.1) ∨ H b = none
theorem Says.refl (s : Ls) (H : Hp) : Says s H s.says := fun _ h => .inl h
theorem Says.own {c : Lc} {s s' : Ls} {H : Hp} (h : Says s H s'.says) : ∀ b, own c s' b → own c s b ∨ H b = none := fun b w => by
  rcases w with w | w | w | w | w | w
  · exact .inl (.inl w)
  · exact .inl (.inr (.inl w))
  · exact .inl (.inr (.inr (.inl w)))
  · exact .inl (.inr (.inr (.inr (.inl w))))
  · exact .inl (.inr (.inr (.inr (.inr (.inl w)))))
  · rcases h b w with z | z
    · exact .inl (.inr (.inr (.inr (.inr (.inr z)))))
    · exact .inr z
/-- a step of laying: what it may change, what it leaves -/
def Lstep (K : PySem.W.Frag) (C : Addr) (c : Lc) (s : Ls) (F H : Hp) (s' : Ls) (F' H' : Hp) : Prop := Gr (own c s) F H F' H' ∧ Says s H s'.says ∧ LyAt K C c s' F' H'
theorem Lstep.trans {K : PySem.W.Frag} {C : Addr} {c : Lc} {s s1 s2 : Ls} {F H F1 H1 F2 H2 : Hp} (a : Lstep K C c s F H s1 F1 H1) (b : Lstep K C c s1 F1 H1 s2 F2 H2) : Lstep K C c s F H s2 F2 H2 :=
  ⟨a.1.trans' b.1 (Says.own a.2.1), fun x hx => by
    rcases b.2.1 x hx with z | z
    · exact a.2.1 x z
    · exact .inr (a.1.th x z), b.2.2⟩
theorem Lstep.refl {K : PySem.W.Frag} {C : Addr} {c : Lc} {s : Ls} {F H : Hp} (a : LyAt K C c s F H) : Lstep K C c s F H s F H := ⟨Gr.refl a.fh, Says.refl s H, a⟩
theorem Lstep.bud {K : PySem.W.Frag} {C : Addr} {c : Lc} {s s1 : Ls} {F H F1 H1 : Hp} (a : Lstep K C c s F H s1 F1 H1) {b : Nat} (h : s1.bud ≤ b) : Lstep K C c s F H { s1 with bud := b } F1 H1 := ⟨a.1, a.2.1, a.2.2.budM h⟩
section
variable {P : Program} {w : World} {K : PySem.W.Frag} {mg : Str → Option Value} {base : Heap} {C : Addr}
theorem Row.at_label {F : Hp} {v : V} {l : Str} (h : Da K F v (Row.label l).d) : ∃ t, v = .ref t ∧ SqT K F t [.str "label", .str l] := by
  obtain ⟨a, x, y, rfl, h1, h2, h3⟩ := h.tup2
  cases h2.str_inv
  cases h3.str_inv
  exact ⟨a, rfl, h1⟩
theorem Row.at_say {F : Hp} {v : V} {r : Rk} (h : Da K F v (Row.say r).d) : ∃ t x, v = .ref t ∧ SqT K F t [.str "say", x] ∧ Da K F x r.d := by
  obtain ⟨a, x, y, rfl, h1, h2, h3⟩ := h.tup2
  cases h2.str_inv
  exact ⟨a, y, rfl, h1, h3⟩
def spMark (K : PySem.W.Frag) (C : Addr) : Sp := Sp3 fun laying row place H Q => ∃ (c : Lc) (s : Ls) (F : Hp) (r : Row) (p : Int), laying = .ref c.l ∧ LyAt K C c s F H ∧ Da K F row r.d ∧ place = .int p ∧ s.bud + 110 ≤ 16000000 ∧
  ((∃ l, r = .label l ∧ (s.hand, l) ∉ s.labels.map (·.1) ∧ ∀ F' H', Lstep K C c s F H { s with labels := s.labels ++ [((s.hand, l), p)], bud := s.bud + 110 } F' H' → Q .non H') ∨
   ∃ rk N, r = .say rk ∧ rk.Ok N c.hands 2 ∧ (∀ x ∈ N, AnyOk c x) ∧ ∀ F' H' ys as, Lstep K C c s F H { s with says := ys, asked := as, bud := s.bud + 110 } F' H' → Q .non H')
theorem Rk.Ok.sums {N Hs : List Str} : ∀ (n : Nat) (r : Rk), r.Ok N Hs n → ∀ sm ∈ r.sums, sm.Ok N
  | 0, _, h, _, _ => h.elim
  | n + 1, .most s, h, sm, hs => by
    rw [List.mem_singleton.mp hs]
    exact h
  | n + 1, .rest s m, h, sm, hs => by
    rw [List.mem_singleton.mp hs]
    exact h.1
  | n + 1, .at _ _, h, sm, hs => nomatch hs
  | n + 1, .not r, h, sm, hs => Rk.Ok.sums n r h sm hs
  | n + 1, .and rs, h, sm, hs => by
    have hs' : sm ∈ Rk.sumss rs := hs
    rw [Rk.sumss_eq] at hs'
    obtain ⟨l, hl, hm⟩ := List.mem_flatten.mp hs'
    obtain ⟨r, hr, rfl⟩ := List.mem_map.mp hl
    exact Rk.Ok.sums n r (h.2 r hr) sm hm
  | n + 1, .or rs, h, sm, hs => by
    have hs' : sm ∈ Rk.sumss rs := hs
    rw [Rk.sumss_eq] at hs'
    obtain ⟨l, hl, hm⟩ := List.mem_flatten.mp hs'
    obtain ⟨r, hr, rfl⟩ := List.mem_map.mp hl
    exact Rk.Ok.sums n r (h.2 r hr) sm hm
theorem Rk.Ok.ats {N Hs : List Str} : ∀ (n : Nat) (r : Rk), r.Ok N Hs n → ∀ x ∈ r.ats, x.1 ∈ Hs ∧ LabT x.2
  | 0, _, h, _, _ => h.elim
  | n + 1, .most s, h, sm, hs => nomatch hs
  | n + 1, .rest s m, h, sm, hs => nomatch hs
  | n + 1, .at _ _, h, x, hs => by
    rw [List.mem_singleton.mp hs]
    exact ⟨h.1, h.2.2⟩
  | n + 1, .not r, h, sm, hs => Rk.Ok.ats n r h sm hs
  | n + 1, .and rs, h, sm, hs => by
    have hs' : sm ∈ Rk.atss rs := hs
    rw [Rk.atss_eq] at hs'
    obtain ⟨l, hl, hm⟩ := List.mem_flatten.mp hs'
    obtain ⟨r, hr, rfl⟩ := List.mem_map.mp hl
    exact Rk.Ok.ats n r (h.2 r hr) sm hm
  | n + 1, .or rs, h, sm, hs => by
    have hs' : sm ∈ Rk.atss rs := hs
    rw [Rk.atss_eq] at hs'
    obtain ⟨l, hl, hm⟩ := List.mem_flatten.mp hs'
    obtain ⟨r, hr, rfl⟩ := List.mem_map.mp hl
    exact Rk.Ok.ats n r (h.2 r hr) sm hm
theorem sayK_get (ys : List ((Str × Int) × Addr × List Rk)) (h : Str) (p : Int) : valV (ys.map sayK) [.inr h, .inl p] = (lkp ys (h, p)).map fun q => V.ref q.1 :=
  val_lkp (g := fun k : Str × Int => ([.inr k.1, .inl k.2] : List Key)) (fun a b e => by
    injection e with e1 e2
    injection e2 with e2 _
    exact Prod.ext (Sum.inr.inj e1) (Sum.inl.inj e2)) (fun q : Addr × List Rk => V.ref q.1) (h, p) ys
theorem labK_get (ys : List ((Str × Str) × Int)) (h l : Str) : valV (ys.map labK) [.inr h, .inr l] = (lkp ys (h, l)).map V.int :=
  val_lkp (g := fun k : Str × Str => ([.inr k.1, .inr k.2] : List Key)) (fun a b e => by
    injection e with e1 e2
    injection e2 with e2 _
    exact Prod.ext (Sum.inr.inj e1) (Sum.inr.inj e2)) V.int (h, l) ys
theorem ok_mark (F : FunAt K mg "lay_mark" s_lay_mark) (G : Glb K mg) (L : LCls K C) (c_want_remark : Cal P w K mg base "want_remark" 4 ["laying", "remark", "any_box"] (spWantR K C)) :
    Cal P w K mg base "lay_mark" 5 ["laying", "row", "place"] (spMark K C) := by
  refine F.cal sc_lay_mark Sp3.len (fun _ _ _ _ _ _ us hl => match us, hl with | [_, _, _], _ => rfl) fun f cdv A outer s H vs Q E hr h => ?_
  have nd := sc_lay_mark.nd
  have hu := hu_of hr
  refine ⟨_, (pss_one (ps_if (pt_cmpR op_eq (pe_ix ix_tup (pv 1) pe_int (fun _ _ => rfl)) pe_str (nomark _)) (pss_cons (ps_set (i := 3) nd rfl (Or.inl rfl) (pe_tup (pa_cons (pe_fld (pv 0) rfl) (pa_cons (pe_ix ix_tup (pv 1) pe_int (fun _ _ => rfl)) pa_nil))))
      (pss_cons (ps_if (pt_cmp (pc_din hu (pv 3) (pe_fld (pv 0) rfl))) pss_never pss_nil)
      (pss_one (ps_dput hu (pe_fld (pv 0) rfl) (pv 3) (pv 2) rfl)))) (pss_cons (ps_expr (pe_cal c_want_remark hr rfl (pa_cons (pv 0) (pa_cons (pe_ix ix_tup (pv 1) pe_int (fun _ _ => rfl)) (pa_cons pe_bl pa_nil)))))
      (pss_one (ps_expr (pe_bm PySem.F.plainAttrs_list PySem.F.slot_list_append PySem.F.type_list_append mt_append (pe_dsetdT hu (pe_fld (pv 0) rfl) (pe_tup (pa_cons (pe_fld (pv 0) rfl) (pa_cons (pv 2) pa_nil))) (pe_lst pa_nil) ⟨rfl, rfl, rfl, rfl⟩) (pa_cons (pe_ix ix_tup (pv 1) pe_int (fun _ _ => rfl)) pa_nil))))))), ?_⟩
  obtain ⟨laying, row, place, rfl, c, s, F0, r, p, rfl, ly, h1, rfl, hb, hc⟩ := h
  have n1 := L.na "hand" (by decide +kernel)
  have n2 := L.na "labels" (by decide +kernel)
  have n3 := L.na "says" (by decide +kernel)
  rcases hc with ⟨l, rfl, hnew, post⟩ | ⟨rk, N, rfl, ok, hN, post⟩
  · obtain ⟨t, rfl, h2⟩ := Row.at_label h1
    have h3 := ly.fh.tup h2
    refine ⟨_, rfl, t, _, 0, _, rfl, rfl, h3, at0, rfl, _, rfl, ite_eq ?_⟩
    refine ⟨_, rfl, _, _, _, _, _, rfl, ly.at_, L.cls, n1, lk_hand c s, _, rfl, t, _, 1, _, rfl, rfl, h3, at1, (by show 2 ≤ sizeLine; decide), fun k hk => ?_⟩
    have ly1 := ly.new (o := .tup [.str s.hand, .str l]) hk
    have e1 : Same H (upd H k (.tup [.str s.hand, .str l])) := Same.new hk
    have hv : valV (s.labels.map labK) [.inr s.hand, .inr l] = none := by
      rw [labK_get, lkp_none.mpr hnew]
      rfl
    refine ⟨_, rfl, _, rfl, _, _, _, _, _, rfl, ly1.at_, L.cls, n2, lk_labels c s, _, _, rfl, DGet.t (k := [.inr s.hand, .inr l]) ly1.ld upd_same, ?_⟩
    rw [hv]
    refine ⟨_, rfl, ?_⟩
    have hl := ly.ldl
    refine ⟨_, rfl, _, rfl, _, _, _, _, _, rfl, ly1.at_, L.cls, n2, lk_labels c s, _, rfl, _, _, rfl, DPut.t (k := [.inr s.hand, .inr l]) ly1.ld upd_same ?_, ?_⟩
    · rw [List.length_map, sizeLine_eq]
      omega
    · rw [putK_none hv]
      have gr := (((Gr.refl (O := own c s) ly.fh).new (o := .tup [.str s.hand, .str l]) hk).set (o := .dT (s.labels.map labK ++ [labK ((s.hand, l), p)])) ly.nld ly1.ld (.inl (.inr (.inr (.inl rfl)))))
      exact post _ _ ⟨gr, Says.refl s H, (ly1.putL (k := (s.hand, l)) (i := p)).budM (by show s.bud + 1 ≤ s.bud + 110; omega)⟩
  · obtain ⟨t, x, rfl, h2, hx⟩ := Row.at_say h1
    have h3 := ly.fh.tup h2
    refine ⟨_, rfl, t, _, 0, _, rfl, rfl, h3, at0, rfl, _, rfl, ite_ne (by decide +kernel) ?_⟩
    refine ⟨_, rfl, _, rfl, t, _, 1, _, rfl, rfl, h3, at1, _, _, _, rfl, c, s, F0, rk, true, rfl, ly, hx, rfl, Rk.sz_of 2 rk ok, fun sm hs => ?_, Rk.Ok.ats 2 rk ok, by omega, fun H1 gr1 ly1 => ?_⟩
    · have o := Rk.Ok.sums 2 rk ok sm hs
      refine ⟨o.1, fun q hq => ?_⟩
      rw [if_pos rfl]
      exact hN _ (o.2 q hq).1
    have h4 := ly1.fh.tup h2
    refine ⟨_, rfl, _, _, _, _, _, rfl, ly1.at_, L.cls, n3, lk_says c _, _, rfl, .inr ⟨_, .inl ly1.yd⟩, _, rfl, _, _, _, _, _, rfl, ly1.at_, L.cls, n1, lk_hand c _, _, rfl, (by show 2 ≤ sizeLine; decide), fun k hk => ?_⟩
    have ly2 := ly1.new (o := .tup [.str s.hand, .int p]) hk
    refine ⟨Nat.zero_le _, fun q hq => ?_⟩
    have ly3 := ly2.new (o := .lst []) hq
    have e12 : Same H1 (upd H1 k (.tup [.str s.hand, .int p])) := Same.new hk
    have e13 := e12.trans (Same.new (o := .lst []) hq)
    have hyl := ly1.ydl
    have hsb : s.bud + 100 ≤ 16000000 := by omega
    refine ⟨s.says.map sayK, [.inr s.hand, .inl p], k, ly3.yd, rfl, Same.new hq _ _ upd_same, ?_, fun v hv => ?_, fun hv => ?_⟩
    · rw [List.length_map, sizeLine_eq]
      have : s.says.length ≤ s.bud + 100 := hyl
      omega
    · rw [sayK_get] at hv
      cases hl : lkp s.says (s.hand, p) with
      | none =>
        rw [hl] at hv
        cases hv
      | some pq =>
        rw [hl] at hv
        cases hv
        have hm := lkp_mem hl
        obtain ⟨y1, y2, ⟨vs, y3, y4⟩, y5⟩ := ly3.ys _ hm
        have hmm : pq.1 ∈ s.says.map (·.2.1) := List.mem_map.mpr ⟨_, hm, rfl⟩
        refine ⟨.inl ⟨rfl, vs, SqL.of y3⟩, _, rfl, t, _, 1, _, rfl, rfl, e13.tup h4, at1, pq.1, vs, _, rfl, rfl, y3, ?_, ?_⟩
        · rw [y4.lenM, sizeLine_eq]
          have : pq.2.length ≤ s.bud + 100 := y2
          show pq.2.length < 16777216
          omega
        · have gr := ((gr1.new (o := .tup [.str s.hand, .int p]) hk).new (o := .lst []) hq).set (o := .lst (vs ++ [x])) y1 y3 (.inl (.inr (.inr (.inr (.inr (.inr hmm))))))
          have ly4 := ly3.addY (r := rk) (v := x) hx ⟨N, ok⟩ hmm y3 (fun p' hp' e => by
            have := nodup_at ly3.yn p' hp' _ hm e
            rw [this]
            exact y4)
          refine post _ _ _ _ ⟨gr, fun b hb' => .inl ?_, ly4.budM (by show s.bud + 100 + 1 ≤ s.bud + 110; omega)⟩
          have e := (sayPut_k pq.1 rk s.says).2
          rw [← e]
          exact hb'
    · rw [putK_none hv]
      have ho : ¬ own c { s with asked := s.asked ++ rk.ats, bud := s.bud + 100 } q := fun o => by
        obtain ⟨_, o1, o2⟩ := ly2.ownAt o
        rw [hq] at o2
        cases o2
      have ly4 := ly3.putY (k := (s.hand, p)) (q := q) upd_same (ly2.fh.free hq) ho
      have hmm : q ∈ (s.says ++ [((s.hand, p), q, ([] : List Rk))]).map (·.2.1) := by
        rw [List.map_append]
        exact List.mem_append_right _ List.mem_cons_self
      obtain ⟨y1, y2, ⟨vs, y3, y4⟩, y5⟩ := ly4.ys ((s.hand, p), q, []) (List.mem_append_right _ List.mem_cons_self)
      cases y4
      have e4 : upd (upd (upd H1 k (.tup [.str s.hand, .int p])) q (.lst [])) c.yd (.dT (s.says.map sayK ++ [sayK ((s.hand, p), q, [])])) q = some (.lst []) := y3
      have k4 : Same F0 (upd (upd (upd H1 k (.tup [.str s.hand, .int p])) q (.lst [])) c.yd (.dT (s.says.map sayK ++ [sayK ((s.hand, p), q, [])]))) := ly4.fh
      refine ⟨.inl ⟨rfl, [], SqL.of e4⟩, _, rfl, t, _, 1, _, rfl, rfl, k4.tup h2, at1, q, [], _, rfl, rfl, e4, (by show 0 < sizeLine; decide), ?_⟩
      have hqn : H q = none := gr1.th q (e12.free hq)
      have gr := ((((gr1.new (o := .tup [.str s.hand, .int p]) hk).new (o := .lst []) hq).set (o := .dT (s.says.map sayK ++ [sayK ((s.hand, p), q, [])])) ly3.nyd ly3.yd (.inl (.inr (.inr (.inr (.inl rfl)))))).set (o := .lst ([] ++ [x])) y1 e4 (.inr hqn))
      have ly5 := ly4.addY (r := rk) (v := x) hx ⟨N, ok⟩ hmm e4 (fun p' hp' e => by
        have := nodup_at ly4.yn p' hp' ((s.hand, p), q, []) (List.mem_append_right _ List.mem_cons_self) e
        rw [this]
        exact .nil)
      refine post _ _ _ _ ⟨gr, fun b hb' => ?_, ly5.budM (by show s.bud + 100 + 1 + 1 ≤ s.bud + 110; omega)⟩
      have e := (sayPut_k q rk (s.says ++ [((s.hand, p), q, ([] : List Rk))])).2
      have hb2 : b ∈ (s.says ++ [((s.hand, p), q, ([] : List Rk))]).map (·.2.1) := by
        rw [← e]
        exact hb'
      rw [List.map_append] at hb2
      rcases List.mem_append.mp hb2 with z | z
      · exact .inl z
      · rw [List.mem_singleton.mp z]
        exact .inr hqn
end
end Ca
namespace Ca
open PySem L2
abbrev s_lay_plain : Stmt := top 27
abbrev N_lay_plain : List Str := ["laying", "row", "start", "to", "number", "box", "one", "name"]
theorem sc_lay_plain : FnScope N_lay_plain ["laying", "row", "start", "to"] (defScope s_lay_plain) := ⟨rfl, rfl, rfl, by decide +kernel, rfl, by decide +kernel, by decide +kernel⟩
-- cells: []  slots: 0=laying 1=row 2=start 3=to 4=number 5=box 6=one 7=name
section
variable {P : Program} {w : World} {K : PySem.W.Frag} {mg : Str → Option Value} {base : Heap} {C : Addr}
theorem Row.at_set {F : Hp} {v : V} {ss : List (Str × Sm)} (h : Da K F v (Row.set ss).d) : ∃ t u xs, v = .ref t ∧ SqT K F t [.str "set", .ref u] ∧ SqT K F u xs ∧ Das K F xs (ss.map sd) := by
  obtain ⟨a, x, y, rfl, h1, h2, h3⟩ := h.tup2
  cases h2.str_inv
  obtain ⟨u, xs, rfl, h4, h5⟩ := h3.tup_inv
  exact ⟨a, u, xs, rfl, h1, h4, h5⟩
theorem Row.at_wait {F : Hp} {v : V} {r : Rk} (h : Da K F v (Row.wait r).d) : ∃ t x, v = .ref t ∧ SqT K F t [.str "wait", x] ∧ Da K F x r.d := by
  obtain ⟨a, x, y, rfl, h1, h2, h3⟩ := h.tup2
  cases h2.str_inv
  exact ⟨a, y, rfl, h1, h3⟩
theorem Row.at_take {F : Hp} {v : V} {l : Str} (h : Da K F v (Row.take l).d) : ∃ t, v = .ref t ∧ SqT K F t [.str "take", .str l] := by
  obtain ⟨a, x, y, rfl, h1, h2, h3⟩ := h.tup2
  cases h2.str_inv
  cases h3.str_inv
  exact ⟨a, rfl, h1⟩
theorem Row.at_give {F : Hp} {v : V} {l : Str} (h : Da K F v (Row.give l).d) : ∃ t, v = .ref t ∧ SqT K F t [.str "give", .str l] := by
  obtain ⟨a, x, y, rfl, h1, h2, h3⟩ := h.tup2
  cases h2.str_inv
  cases h3.str_inv
  exact ⟨a, rfl, h1⟩
theorem EnOk.box {c : Lc} {hand : Str} {num : Int} {E : En} (e : EnOk c hand num E) {b : Bool} {x : Str} (h : x ∈ E.mine) : BoxOk c hand b x := by
  rcases e.mine x h with z | z
  · exact .inl z
  · exact .inr (.inl z)
theorem EnOk.boxF {c : Lc} {hand : Str} {num : Int} {E : En} (e : EnOk c hand num E) {x : Str} (h : x ∈ E.mine ++ E.locks) : BoxOk c hand false x := by
  rcases List.mem_append.mp h with z | z
  · exact e.box z
  · exact .inr (.inr ⟨rfl, e.locks x z⟩)
theorem EnOk.nm {c : Lc} {hand : Str} {num : Int} {E : En} (e : EnOk c hand num E) {r : Rk} (h : r.Ok (E.mine ++ E.locks) E.hands 2) : NmOk c hand false r := fun sm hs => by
  have o := Rk.Ok.sums 2 r h sm hs
  refine ⟨o.1, fun q hq => ?_⟩
  rw [if_neg (by decide)]
  exact e.boxF (o.2 q hq).1
theorem EnOk.ats {c : Lc} {hand : Str} {num : Int} {E : En} (e : EnOk c hand num E) {N : List Str} {r : Rk} (h : r.Ok N E.hands 2) : ∀ x ∈ r.ats, x.1 ∈ c.hands ∧ LabT x.2 := by
  rw [← e.hands]
  exact Rk.Ok.ats 2 r h
theorem Rk.Ok.up {N Hs : List Str} : ∀ (n : Nat) (r : Rk), r.Ok N Hs n → r.Ok N Hs (n + 1)
  | 0, _, h => h.elim
  | n + 1, .most _, h => h
  | n + 1, .rest _ _, h => h
  | n + 1, .at _ _, h => h
  | n + 1, .not r, h => Rk.Ok.up n r h
  | n + 1, .and rs, h => ⟨h.1, fun r hr => Rk.Ok.up n r (h.2 r hr)⟩
  | n + 1, .or rs, h => ⟨h.1, fun r hr => Rk.Ok.up n r (h.2 r hr)⟩
theorem TRk_ok {N Hs : List Str} {n : Nat} : TRk.Ok N Hs (n + 1) := ⟨Nat.zero_le _, fun _ h => nomatch h⟩
theorem add_l {c : Lc} {s : Ls} {F H : Hp} {H1 F2 H2 : Hp} {st : List Stp} (g : Gr (own c s) F H F H1) (g2 : Gr (own c s) F H1 F2 H2) (a : LyAt K C c { s with steps := st, bud := s.bud + 1 } F2 H2) {b : Nat} (hb : s.bud + 1 ≤ b) :
    Lstep K C c s F H { s with steps := st, bud := b } F2 H2 := ⟨g.trans g2, Says.refl s H, a.budM hb⟩
def spPlain (K : PySem.W.Frag) (C : Addr) : Sp := Sp4 fun laying row start to H Q => ∃ (c : Lc) (s : Ls) (F : Hp) (r : Row) (E : En) (n : Nat) (p q num : Int), laying = .ref c.l ∧ LyAt K C c s F H ∧ Da K F row r.d ∧ start = .int p ∧ to = .int q ∧ r.plain = true ∧ r.Ok E (n + 1) ∧ EnOk c s.hand num E ∧ s.bud + 110 ≤ 16000000 ∧
  ∀ F' H' st as, Lstep K C c s F H { s with steps := s.steps ++ st, asked := as, bud := s.bud + 110 } F' H' → LayS s.hand num (n + 1) r p q s.many st s.many → Q .non H'
theorem idx_strs {x : Str} : ∀ {zs : List Str} {j : Nat}, zs.Nodup → zs[j]? = some x → ∀ (m : Nat) (z : V), m < j → (zs.map V.str)[m]? = some z → eqV z (.str x) = false := fun {zs j} nd hj m z hm hz => by
  rw [List.getElem?_map] at hz
  cases e : zs[m]? with
  | none =>
    rw [e] at hz
    cases hz
  | some y =>
    rw [e] at hz
    cases hz
    show (y == x) = false
    refine beq_eq_false_iff_ne.mpr fun h => ?_
    subst h
    have := (List.getElem?_inj (List.getElem?_eq_some_iff.mp e).1 nd).mp (e.trans hj.symm)
    omega
theorem ok_plain (F : FunAt K mg "lay_plain" s_lay_plain) (G : Glb K mg) (L : LCls K C) (c_want_remark : Cal P w K mg base "want_remark" 4 ["laying", "remark", "any_box"] (spWantR K C))
    (c_boxes_of : Cal P w K mg base "boxes_of" 1 ["one"] (spBoxesOf K)) (c_want_box : Met P w K mg base C "want_box" 1 ["self", "name", "setting"] (spWantB K C)) (c_want_lock : Met P w K mg base C "want_lock" 1 ["self", "name"] (spWantL K C))
    (c_add_step : Met P w K mg base C "add_step" 1 ["self", "start", "guard", "sets", "to"] (spAdd K C)) : Cal P w K mg base "lay_plain" 5 ["laying", "row", "start", "to"] (spPlain K C) := by
  refine F.cal sc_lay_plain Sp4.len (fun _ _ _ _ _ _ us hl => match us, hl with | [_, _, _, _], _ => rfl) fun f cdv A outer s H vs Q E hr h => ?_
  have nd := sc_lay_plain.nd
  have hu := hu_of hr
  obtain ⟨a_TRUE, m_TRUE, h_TRUE⟩ := G.TRUE
  have m_list := G.list
  refine ⟨_, (pss_cons (ps_set (i := 4) nd rfl (Or.inl rfl) (pe_op op_add (pe_bm PySem.F.plainAttrs_list PySem.F.slot_list_index PySem.F.type_list_index mt_index (pe_fld (pv 0) rfl) (pa_cons (pe_fld (pv 0) rfl) pa_nil)) pe_int))
    (pss_one (ps_if (pt_cmpR op_eq (pe_ix ix_tup (pv 1) pe_int (fun _ _ => rfl)) pe_str (nomark _)) (pss_cons (ps_for PassesOwn.never rfl (pi_tup (pe_ix ix_tup (pv 1) pe_int (fun _ _ => rfl))) (pg_tup rfl (pgs_cons (pg_name (i := 5) nd rfl (Or.inl rfl)) (pgs_cons (pg_name (i := 6) nd rfl (Or.inl rfl)) pgs_nil)))
        (pss_cons (ps_expr (pe_calm c_want_box hr (pv 0) (pa_cons (pv 5) (pa_cons pe_bl pa_nil))))
        (pss_one (ps_for PassesOwn.never rfl (pi_list (pe_cal c_boxes_of hr rfl (pa_cons (pv 6) pa_nil))) (pg_name (i := 7) nd rfl (Or.inl rfl))
          (pss_one (ps_expr (pe_calm c_want_box hr (pv 0) (pa_cons (pv 7) (pa_cons pe_bl pa_nil)))))))))
      (pss_one (ps_expr (pe_calm c_add_step hr (pv 0) (pa_cons (pv 2) (pa_cons (pe_glob (v := .ref a_TRUE) rfl m_TRUE rfl) (pa_cons (pe_callTy call_list_of (by rfl) m_list (by decide +kernel) (pa_cons (pe_ix ix_tup (pv 1) pe_int (fun _ _ => rfl)) pa_nil)) (pa_cons (pv 3) pa_nil)))))))) (pss_one (ps_if (pt_cmpR op_eq (pe_ix ix_tup (pv 1) pe_int (fun _ _ => rfl)) pe_str (nomark _)) (pss_cons (ps_expr (pe_cal c_want_remark hr rfl (pa_cons (pv 0) (pa_cons (pe_ix ix_tup (pv 1) pe_int (fun _ _ => rfl)) (pa_cons pe_bl pa_nil)))))
        (pss_one (ps_expr (pe_calm c_add_step hr (pv 0) (pa_cons (pv 2) (pa_cons (pe_ix ix_tup (pv 1) pe_int (fun _ _ => rfl)) (pa_cons (pe_lst pa_nil) (pa_cons (pv 3) pa_nil)))))))) (pss_cons (ps_expr (pe_calm c_want_lock hr (pv 0) (pa_cons (pe_ix ix_tup (pv 1) pe_int (fun _ _ => rfl)) pa_nil)))
        (pss_one (ps_if (pt_cmpR op_eq (pe_ix ix_tup (pv 1) pe_int (fun _ _ => rfl)) pe_str (nomark _)) (pss_one (ps_expr (pe_calm c_add_step hr (pv 0) (pa_cons (pv 2) (pa_cons (pe_tup (pa_cons pe_str (pa_cons (pe_tup (pa_cons pe_int (pa_cons (pe_tup (pa_cons (pe_tup (pa_cons (pe_ix ix_tup (pv 1) pe_int (fun _ _ => rfl)) (pa_cons pe_int pa_nil))) pa_nil)) pa_nil))) pa_nil))) (pa_cons (pe_lst (pa_cons (pe_tup (pa_cons (pe_ix ix_tup (pv 1) pe_int (fun _ _ => rfl)) (pa_cons (pe_tup (pa_cons (pv 4) (pa_cons (pe_tup pa_nil) pa_nil))) pa_nil))) pa_nil)) (pa_cons (pv 3) pa_nil))))))) (pss_one (ps_expr (pe_calm c_add_step hr (pv 0) (pa_cons (pv 2) (pa_cons (pe_glob (v := .ref a_TRUE) rfl m_TRUE rfl) (pa_cons (pe_lst (pa_cons (pe_tup (pa_cons (pe_ix ix_tup (pv 1) pe_int (fun _ _ => rfl)) (pa_cons (pe_tup (pa_cons pe_int (pa_cons (pe_tup pa_nil) pa_nil))) pa_nil))) pa_nil)) (pa_cons (pv 3) pa_nil))))))))))))))), ?_⟩
  obtain ⟨laying, row, start, to, rfl, c, s, F0, r, E0, n, p, q, num, rfl, ly, h1, rfl, rfl, hpl, ok, en, hb, post⟩ := h
  have n1 := L.na "hands" (by decide +kernel)
  have n2 := L.na "hand" (by decide +kernel)
  obtain ⟨j, hj, rfl⟩ := en.at_
  have hjv : (c.hands.map V.str)[j]? = some (.str s.hand) := by rw [List.getElem?_map, hj]; rfl
  refine ⟨_, rfl, _, _, _, _, _, rfl, ly.at_, L.cls, n1, lk_hands c s, .inl ⟨rfl, _, SqL.of (ly.fh _ _ ly.hl)⟩, _, rfl, _, _, _, _, _, rfl, ly.at_, L.cls, n2, lk_hand c s, _, _, _, j, _, rfl, rfl, SqL.of (ly.fh _ _ ly.hl), rfl, flat_strs _, hjv, (by show (s.hand == s.hand) = true; exact beq_self_eq_true _), idx_strs en.nd hj, _, _, rfl, rfl, ?_⟩
  have gr0 : Gr (own c s) F0 H F0 H := Gr.refl ly.fh
  cases r with
  | set ss =>
    obtain ⟨t, u, xs, rfl, h2, h3, h4⟩ := Row.at_set h1
    have h2' := ly.fh.tup h2
    refine ⟨_, rfl, t, _, 0, _, rfl, rfl, h2', at0, rfl, _, rfl, ite_eq ?_⟩
    refine ⟨_, rfl, t, _, 1, _, rfl, rfl, h2', at1, u, rfl, ⟨_, ly.fh.tup h3⟩, for_tup (K := K) (a := u) (xs := xs) (fun i σ H' => ∃ x y z, σ = [some (.ref c.l), some (.ref t), some (.int p), some (.int q), some (.int ((j : Int) + 1)), x, y, z] ∧ Same H H') ⟨none, none, none, rfl, Same.refl _⟩ (fun i σ H' _ ⟨_, _, _, _, e⟩ => (ly.fh.trans e).tup h3) ?_ ?_⟩
    · rintro i v σ H' hi ⟨x, y, z, rfl, e1⟩
      obtain ⟨ps, hps, hv⟩ := h4.getM hi
      have hpm := List.mem_of_getElem? hps
      obtain ⟨o1, o2, o3⟩ := ok.2.2 ps hpm
      obtain ⟨a, u1, rfl, g1, g2⟩ := sd_at hv
      have ly1 := ly.same e1
      refine ⟨a, _, rfl, ly1.fh.tup g1, rfl, _, _, rfl, _, _, rfl, rfl, ?_⟩
      refine ⟨_, rfl, c.l, c.dx, lyF c s, rfl, ly1.at_, rfl, _, rfl, _, _, _, rfl, c, s, F0, ps.1, true, rfl, ly1, rfl, rfl, en.box o1, ?_⟩
      refine ⟨_, rfl, _, rfl, ps.2, g2.mono ly1.fh, ?_, fun p2 H2 hp2 e2 hp3 => ?_⟩
      · have := o3.1
        omega
      refine ⟨p2, rfl, ⟨_, SqL.of hp3⟩, for_list (K := K) (a := p2) (xs := ps.2.parts.map fun p => V.str p.1) (fun i σ H' => ∃ x y z, σ = [some (.ref c.l), some (.ref t), some (.int p), some (.int q), some (.int ((j : Int) + 1)), x, y, z] ∧ Same H2 H') ⟨_, _, z, rfl, Same.refl _⟩ (fun i σ H' _ ⟨_, _, _, _, e⟩ => SqL.of (e _ _ hp3)) ?_ ?_⟩
      · rintro j' u2 σ H3 hj' ⟨x', y', z', rfl, e3⟩
        rw [List.getElem?_map] at hj'
        cases hpj : ps.2.parts[j']? with
        | none =>
          rw [hpj] at hj'
          cases hj'
        | some q2 =>
          rw [hpj] at hj'
          cases hj'
          have ly3 := ly.same ((e1.trans e2).trans e3)
          exact ⟨_, rfl, c.l, c.dx, lyF c s, rfl, ly3.at_, rfl, _, rfl, _, _, _, rfl, c, s, F0, q2.1, false, rfl, ly3, rfl, rfl, en.boxF (o3.2 q2 (List.mem_of_getElem? hpj)).1, _, _, _, rfl, e3⟩
      · rintro σ H3 ⟨x', y', z', rfl, e3⟩
        exact ⟨_, _, _, rfl, (e1.trans e2).trans e3⟩
    · rintro σ H' ⟨x, y, z, rfl, e1⟩
      have ly1 := ly.same e1
      refine ⟨_, rfl, c.l, c.dx, lyF c s, rfl, ly1.at_, rfl, _, rfl, _, rfl, t, _, 1, _, rfl, rfl, ly1.fh.tup h2, at1, u, xs, rfl, .inr (ly1.fh.tup h3), fun l hl => ?_⟩
      have ly2 := ly1.new (o := .lst xs) hl
      refine ⟨_, rfl, _, _, _, _, _, rfl, c, s, F0, p, q, TRk, l, xs, ss, rfl, ly2, rfl, rfl, (h_TRUE F0), ⟨[], TRk_ok⟩, rfl, upd_same, h4, ok.2.1, ok.1, by omega, fun F2 H2 ss' gr2 hss ly3 => ?_⟩
      exact post _ _ _ _ (add_l ((gr0.same e1).new (o := .lst xs) hl) gr2 ly3 (by omega)) ⟨ss', hss, rfl, rfl⟩
  | wait rk =>
    obtain ⟨t, x, rfl, h2, h3⟩ := Row.at_wait h1
    have h2' := ly.fh.tup h2
    refine ⟨_, rfl, t, _, 0, _, rfl, rfl, h2', at0, rfl, _, rfl, ite_ne (by decide +kernel) ?_⟩
    refine ⟨_, rfl, t, _, 0, _, rfl, rfl, h2', at0, rfl, _, rfl, ite_eq ?_⟩
    refine ⟨_, rfl, _, rfl, t, _, 1, _, rfl, rfl, h2', at1, _, _, _, rfl, c, s, F0, rk, false, rfl, ly, h3, rfl, Rk.sz_of 2 rk ok, en.nm ok, en.ats ok, by omega, fun H1 gr1 ly1 => ?_⟩
    have h4 := ly1.fh.tup h2
    refine ⟨_, rfl, c.l, c.dx, lyF c _, rfl, ly1.at_, rfl, _, rfl, _, rfl, t, _, 1, _, rfl, rfl, h4, at1, Nat.zero_le _, fun l hl => ?_⟩
    have ly2 := ly1.new (o := .lst []) hl
    refine ⟨_, rfl, _, _, _, _, _, rfl, c, _, F0, p, q, rk, l, [], [], rfl, ly2, rfl, rfl, h3, ⟨_, Rk.Ok.up 2 rk (by rw [← en.hands]; exact ok)⟩, rfl, upd_same, .nil, List.nodup_nil, Nat.zero_le _, by show s.bud + 100 + 1 ≤ 16000000; omega, fun F2 H2 ss' gr2 hss ly3 => ?_⟩
    cases List.perm_nil.mp hss
    exact post _ _ _ _ ⟨(gr1.new (o := .lst []) hl).trans gr2, Says.refl s H, ly3.budM (by show s.bud + 100 + 1 ≤ s.bud + 110; omega)⟩ ⟨rfl, rfl⟩
  | take l =>
    obtain ⟨t, rfl, h2⟩ := Row.at_take h1
    have h2' := ly.fh.tup h2
    refine ⟨_, rfl, t, _, 0, _, rfl, rfl, h2', at0, rfl, _, rfl, ite_ne (by decide +kernel) ?_⟩
    refine ⟨_, rfl, t, _, 0, _, rfl, rfl, h2', at0, rfl, _, rfl, ite_ne (by decide +kernel) ?_⟩
    refine ⟨_, rfl, c.l, c.dx, lyF c s, rfl, ly.at_, rfl, _, rfl, t, _, 1, _, rfl, rfl, h2', at1, _, _, rfl, c, s, F0, l, rfl, ly, rfl, en.locks l ok.1, ?_⟩
    refine ⟨_, rfl, t, _, 0, _, rfl, rfl, h2', at0, rfl, _, rfl, ite_eq ?_⟩
    refine ⟨_, rfl, c.l, c.dx, lyF c s, rfl, ly.at_, rfl, _, rfl, _, rfl, t, _, 1, _, rfl, rfl, h2', at1, (by show 2 ≤ sizeLine; decide), fun t1 k1 => ?_⟩
    have s1 : Same F0 (upd F0 t1 (.tup [.str l, .int 1])) := Same.new (ly.fh.free k1)
    have a1 := ly.newF (o := .tup [.str l, .int 1]) k1
    have g1 := gr0.newF (o := .tup [.str l, .int 1]) k1
    have d1 : Da K (upd F0 t1 (.tup [.str l, .int 1])) (.ref t1) (pd (l, 1)) := .tup (SqT.of upd_same) (.cons (.str _) (.cons (.int _) .nil))
    refine ⟨(by show 1 ≤ sizeLine; decide), fun t2 k2 => ?_⟩
    have s2 := Same.new (o := .tup [.ref t1]) (a1.fh.free k2)
    have a2 := a1.newF (o := .tup [.ref t1]) k2
    have g2 := g1.newF (o := .tup [.ref t1]) k2
    have d2 : Da K _ (.ref t2) (.tuple [pd (l, 1)]) := .tup (SqT.of (upd_same (H := upd F0 t1 (.tup [.str l, .int 1])) (a := t2) (o := .tup [.ref t1]))) (.cons (d1.mono s2) .nil)
    refine ⟨(by show 2 ≤ sizeLine; decide), fun t3 k3 => ?_⟩
    have s3 := Same.new (o := .tup [.int 0, .ref t2]) (a2.fh.free k3)
    have a3 := a2.newF (o := .tup [.int 0, .ref t2]) k3
    have g3 := g2.newF (o := .tup [.int 0, .ref t2]) k3
    have d3 : Da K _ (.ref t3) (.tuple [.int 0, .tuple [pd (l, 1)]]) := .tup (SqT.of (upd_same (H := upd (upd F0 t1 (.tup [.str l, .int 1])) t2 (.tup [.ref t1])) (a := t3) (o := .tup [.int 0, .ref t2]))) (.cons (.int _) (.cons (d2.mono s3) .nil))
    refine ⟨(by show 2 ≤ sizeLine; decide), fun t4 k4 => ?_⟩
    have s4 := Same.new (o := .tup [.str "most", .ref t3]) (a3.fh.free k4)
    have a4 := a3.newF (o := .tup [.str "most", .ref t3]) k4
    have g4 := g3.newF (o := .tup [.str "most", .ref t3]) k4
    have d4 : Da K _ (.ref t4) (Rk.most ⟨0, [(l, 1)]⟩).d := .tup (SqT.of (upd_same (H := upd (upd (upd F0 t1 (.tup [.str l, .int 1])) t2 (.tup [.ref t1])) t3 (.tup [.int 0, .ref t2])) (a := t4) (o := .tup [.str "most", .ref t3]))) (.cons (.str _) (.cons (d3.mono s4) .nil))
    have sall := ((s1.trans s2).trans s3).trans s4
    refine ⟨_, rfl, t, _, 1, _, rfl, rfl, a4.fh.tup (sall.tup h2), at1, _, rfl, Nat.zero_le _, fun t5 k5 => ?_⟩
    have s5 := Same.new (o := .tup []) (a4.fh.free k5)
    have a5 := a4.newF (o := .tup []) k5
    have g5 := g4.newF (o := .tup []) k5
    refine ⟨(by show 2 ≤ sizeLine; decide), fun t6 k6 => ?_⟩
    have s6 := Same.new (o := .tup [.int ((j : Int) + 1), .ref t5]) (a5.fh.free k6)
    have a6 := a5.newF (o := .tup [.int ((j : Int) + 1), .ref t5]) k6
    have g6 := g5.newF (o := .tup [.int ((j : Int) + 1), .ref t5]) k6
    refine ⟨(by show 2 ≤ sizeLine; decide), fun t7 k7 => ?_⟩
    have s7 := Same.new (o := .tup [.str l, .ref t6]) (a6.fh.free k7)
    have a7 := a6.newF (o := .tup [.str l, .ref t6]) k7
    have g7 := g6.newF (o := .tup [.str l, .ref t6]) k7
    have f5 : Same _ _ := (s6.trans s7)
    refine ⟨(by show 1 ≤ sizeLine; decide), fun l0 kl => ?_⟩
    have a8 := a7.new (o := .lst [.ref t7]) kl
    have g8 := g7.new (o := .lst [.ref t7]) kl
    refine ⟨_, rfl, _, _, _, _, _, rfl, c, s, _, p, q, .most ⟨0, [(l, 1)]⟩, l0, [.ref t7], [(l, ⟨(j : Int) + 1, []⟩)], rfl, a8, rfl, rfl, d4.mono ((s5.trans s6).trans s7), ⟨[l], (by show 1 ≤ 10; decide), fun x hx => ?_⟩, rfl, upd_same, .cons ?_ .nil, List.nodup_cons.mpr ⟨List.not_mem_nil, List.nodup_nil⟩, (by show 1 ≤ 10; decide), by omega, fun F2 H2 ss' gr2 hss ly3 => ?_⟩
    · rw [List.mem_singleton.mp hx]
      exact ⟨List.mem_cons_self, ok.2, (by show -(2 ^ 64) < (1 : Int); decide), (by show (1 : Int) < 2 ^ 64; decide)⟩
    · exact .tup (SqT.of upd_same) (.cons (.str _) (.cons (.tup (SqT.of (s7 _ _ upd_same)) (.cons (.int _) (.cons (.tup (SqT.of (f5 _ _ upd_same)) .nil) .nil))) .nil))
    · cases List.perm_singleton.mp hss
      exact post _ _ _ _ ⟨g8.trans gr2, Says.refl s H, ly3.budM (by show s.bud + 1 ≤ s.bud + 110; omega)⟩ ⟨rfl, rfl⟩
  | give l =>
    obtain ⟨t, rfl, h2⟩ := Row.at_give h1
    have h2' := ly.fh.tup h2
    refine ⟨_, rfl, t, _, 0, _, rfl, rfl, h2', at0, rfl, _, rfl, ite_ne (by decide +kernel) ?_⟩
    refine ⟨_, rfl, t, _, 0, _, rfl, rfl, h2', at0, rfl, _, rfl, ite_ne (by decide +kernel) ?_⟩
    refine ⟨_, rfl, c.l, c.dx, lyF c s, rfl, ly.at_, rfl, _, rfl, t, _, 1, _, rfl, rfl, h2', at1, _, _, rfl, c, s, F0, l, rfl, ly, rfl, en.locks l ok.1, ?_⟩
    refine ⟨_, rfl, t, _, 0, _, rfl, rfl, h2', at0, rfl, _, rfl, ite_ne (by decide +kernel) ?_⟩
    refine ⟨_, rfl, c.l, c.dx, lyF c s, rfl, ly.at_, rfl, _, rfl, _, rfl, t, _, 1, _, rfl, rfl, h2', at1, Nat.zero_le _, fun t5 k5 => ?_⟩
    have s5 := Same.new (o := .tup []) (ly.fh.free k5)
    have a5 := ly.newF (o := .tup []) k5
    have g5 := gr0.newF (o := .tup []) k5
    refine ⟨(by show 2 ≤ sizeLine; decide), fun t6 k6 => ?_⟩
    have s6 := Same.new (o := .tup [.int 0, .ref t5]) (a5.fh.free k6)
    have a6 := a5.newF (o := .tup [.int 0, .ref t5]) k6
    have g6 := g5.newF (o := .tup [.int 0, .ref t5]) k6
    refine ⟨(by show 2 ≤ sizeLine; decide), fun t7 k7 => ?_⟩
    have s7 := Same.new (o := .tup [.str l, .ref t6]) (a6.fh.free k7)
    have a7 := a6.newF (o := .tup [.str l, .ref t6]) k7
    have g7 := g6.newF (o := .tup [.str l, .ref t6]) k7
    have f5 : Same _ _ := (s6.trans s7)
    refine ⟨(by show 1 ≤ sizeLine; decide), fun l0 kl => ?_⟩
    have a8 := a7.new (o := .lst [.ref t7]) kl
    have g8 := g7.new (o := .lst [.ref t7]) kl
    refine ⟨_, rfl, _, _, _, _, _, rfl, c, s, _, p, q, TRk, l0, [.ref t7], [(l, ⟨0, []⟩)], rfl, a8, rfl, rfl, h_TRUE _, ⟨[], TRk_ok⟩, rfl, upd_same, .cons ?_ .nil, List.nodup_cons.mpr ⟨List.not_mem_nil, List.nodup_nil⟩, (by show 1 ≤ 10; decide), by omega, fun F2 H2 ss' gr2 hss ly3 => ?_⟩
    · exact .tup (SqT.of upd_same) (.cons (.str _) (.cons (.tup (SqT.of (s7 _ _ upd_same)) (.cons (.int _) (.cons (.tup (SqT.of (f5 _ _ upd_same)) .nil) .nil))) .nil))
    · cases List.perm_singleton.mp hss
      exact post _ _ _ _ ⟨g8.trans gr2, Says.refl s H, ly3.budM (by show s.bud + 1 ≤ s.bud + 110; omega)⟩ ⟨rfl, rfl⟩
  | iff _ _ _ => cases hpl
  | whl _ _ => cases hpl
  | rounds _ _ => cases hpl
  | either _ => cases hpl
  | label _ => cases hpl
  | say _ => cases hpl
  | skip => cases hpl
end
end Ca
namespace Ca
open PySem L2
abbrev s_lay_rows : Stmt := top 32
abbrev N_lay_rows : List Str := ["laying", "rows", "start", "to", "left", "here", "row", "there"]
theorem sc_lay_rows : FnScope N_lay_rows ["laying", "rows", "start", "to"] (defScope s_lay_rows) := ⟨rfl, rfl, rfl, by decide +kernel, rfl, by decide +kernel, by decide +kernel⟩
-- cells: []  slots: 0=laying 1=rows 2=start 3=to 4=left 5=here 6=row 7=there
abbrev s_lay_while : Stmt := top 29
abbrev N_lay_while : List Str := ["laying", "row", "start", "to", "inner"]
theorem sc_lay_while : FnScope N_lay_while ["laying", "row", "start", "to"] (defScope s_lay_while) := ⟨rfl, rfl, rfl, by decide +kernel, rfl, by decide +kernel, by decide +kernel⟩
-- cells: []  slots: 0=laying 1=row 2=start 3=to 4=inner
abbrev s_lay_if : Stmt := top 28
abbrev N_lay_if : List Str := ["laying", "row", "start", "to", "first", "second"]
theorem sc_lay_if : FnScope N_lay_if ["laying", "row", "start", "to"] (defScope s_lay_if) := ⟨rfl, rfl, rfl, by decide +kernel, rfl, by decide +kernel, by decide +kernel⟩
-- cells: []  slots: 0=laying 1=row 2=start 3=to 4=first 5=second
section
variable {P : Program} {w : World} {K : PySem.W.Frag} {mg : Str → Option Value} {base : Heap} {C : Addr}
theorem Lstep.to {c : Lc} {s s1 s2 : Ls} {F H F1 H1 : Hp} (a : Lstep K C c s F H s1 F1 H1) (h1 : s2.hand = s1.hand) (h2 : s2.many = s1.many) (h3 : s2.steps = s1.steps) (h4 : s2.labels = s1.labels) (h5 : s2.says = s1.says) (h6 : s2.asked = s1.asked) (h7 : s1.bud ≤ s2.bud) : Lstep K C c s F H s2 F1 H1 := by
  obtain ⟨a1, a2, a3, a4, a5, a6, a7⟩ := s1
  obtain ⟨b1, b2, b3, b4, b5, b6, b7⟩ := s2
  cases h1; cases h2; cases h3; cases h4; cases h5; cases h6
  exact a.bud (b := b7) h7
theorem Lstep.mk' {c : Lc} {s s1 : Ls} {F H F1 H1 : Hp} (g : Gr (own c s) F H F1 H1) (a : LyAt K C c s1 F1 H1) (h : s1.says = s.says) : Lstep K C c s F H s1 F1 H1 := ⟨g, by rw [h]; exact Says.refl s H, a⟩
def RowsL (E : En) (n : Nat) (rs : List Row) : Prop := rs.length ≤ 1000 ∧ n ≤ 10 ∧ ∀ x ∈ rs, x.Ok E n ∨ (1 ≤ n ∧ ∃ l, x = .label l)
def NewL (s : Ls) (rs : List Row) : Prop := (lbs rs).Nodup ∧ ∀ l ∈ lbs rs, (s.hand, l) ∉ s.labels.map (·.1)
theorem NewL.none {s : Ls} {rs : List Row} (h : lbs rs = []) : NewL s rs := by
  unfold NewL
  rw [h]
  exact ⟨List.nodup_nil, fun l hl => nomatch hl⟩
def labH (h : Str) (lb : List (Str × Int)) : List ((Str × Str) × Int) := lb.map fun p => ((h, p.1), p.2)
def spKind (K : PySem.W.Frag) (C : Addr) (n : Nat) (kd : Row → Prop) : Sp := Sp4 fun laying row start to H Q => ∃ (c : Lc) (s : Ls) (F : Hp) (r : Row) (E : En) (p q num : Int), laying = .ref c.l ∧ LyAt K C c s F H ∧ Da K F row r.d ∧ start = .int p ∧ to = .int q ∧ kd r ∧ r.Ok E n ∧ n ≤ 10 ∧ EnOk c s.hand num E ∧ s.bud + wX n ≤ 16000000 ∧
  ∀ F' H' st ys as m', Lstep K C c s F H { s with steps := s.steps ++ st, says := ys, asked := as, many := m', bud := s.bud + wX n } F' H' → LayS s.hand num n r p q s.many st m' → Q .non H'
abbrev spStmL (K : PySem.W.Frag) (C : Addr) (n : Nat) : Sp := spKind K C n fun r => r.mark = false
def spRowsL (K : PySem.W.Frag) (C : Addr) (n : Nat) : Sp := Sp4 fun laying rows start to H Q => ∃ (c : Lc) (s : Ls) (F : Hp) (rs : List Row) (E : En) (p q num : Int), laying = .ref c.l ∧ LyAt K C c s F H ∧ Da K F rows (rd rs) ∧ start = .int p ∧ to = .int q ∧ RowsL E n rs ∧ NewL s rs ∧ EnOk c s.hand num E ∧ s.bud + (10 + rs.length * wX n) ≤ 16000000 ∧
  ∀ F' H' st ys as m' lb, Lstep K C c s F H { s with steps := s.steps ++ st, labels := s.labels ++ labH s.hand lb, says := ys, asked := as, many := m', bud := s.bud + (10 + rs.length * wX n) } F' H' → LayR s.hand (LayS s.hand num n) rs p q s.many st lb m' → Q .non H'
theorem Row.at_whl' {F : Hp} {v : V} {r : Rk} {a : List Row} (h : Da K F v (Row.whl r a).d) : ∃ t x y, v = .ref t ∧ SqT K F t [.str "while", x, y] ∧ Da K F x r.d ∧ Da K F y (rd a) := Row.at_whl h
theorem rowsL_of {E : En} {n : Nat} {rs : List Row} (h : rs.length ≤ 12) (hn : n ≤ 10) (k : ∀ x ∈ rs, Row.Ok E n x) : RowsL E n rs := ⟨by omega, hn, fun x hx => .inl (k x hx)⟩
theorem ok_lrows {n k : Nat} (F : FunAt K mg "lay_rows" s_lay_rows) (G : Glb K mg) (L : LCls K C) (c_statements : Cal P w K mg base "statements" 1 ["rows"] (spStm K)) (c_lay_mark : Cal P w K mg base "lay_mark" 5 ["laying", "row", "place"] (spMark K C))
    (c_new_place : Met P w K mg base C "new_place" 1 ["self"] (spNewp K C)) (c_add_step : Met P w K mg base C "add_step" 1 ["self", "start", "guard", "sets", "to"] (spAdd K C)) (c_lay_statement : Cal P w K mg base "lay_statement" (k + 5) ["laying", "row", "start", "to"] (spStmL K C n)) :
    Cal P w K mg base "lay_rows" (k + 6) ["laying", "rows", "start", "to"] (spRowsL K C n) := by
  refine F.cal sc_lay_rows Sp4.len (fun _ _ _ _ _ _ us hl => match us, hl with | [_, _, _, _], _ => rfl) fun f cdv A outer s H vs Q E hr h => ?_
  have nd := sc_lay_rows.nd
  have hu := hu_of hr
  obtain ⟨a_MARKS, m_MARKS, h_MARKS⟩ := G.MARKS
  obtain ⟨a_TRUE, m_TRUE, h_TRUE⟩ := G.TRUE
  have m_len := G.len
  refine ⟨_, (pss_cons (ps_set (i := 4) nd rfl (Or.inl rfl) (pe_callB call_len_seq (by rfl) m_len (by decide +kernel) (pa_cons (pe_cal c_statements hr rfl (pa_cons (pv 1) pa_nil)) pa_nil)))
    (pss_cons (ps_set (i := 5) nd rfl (Or.inl rfl) (pv 2))
    (Evl.pss_cut (ps_if (pt_cmpR op_eq (pv 4) pe_int (nomark _)) (pss_cons (ps_set (i := 5) nd rfl (Or.inl rfl) (pv 3))
      (pss_one (ps_expr (pe_calm c_add_step hr (pv 0) (pa_cons (pv 2) (pa_cons (pe_glob (v := .ref a_TRUE) rfl m_TRUE rfl) (pa_cons (pe_lst pa_nil) (pa_cons (pv 3) pa_nil)))))))) pss_nil)
    (pss_one (ps_for PassesOwn.never rfl (pi_list (pv 1)) (pg_name (i := 6) nd rfl (Or.inl rfl))
      (pss_one (ps_if (pt_cmpR op_in_seq (pe_ix ix_tup (pv 6) pe_int (fun _ _ => rfl)) (pe_glob (v := .ref a_MARKS) rfl m_MARKS rfl) (by rfl)) (pss_one (ps_expr (pe_cal c_lay_mark hr rfl (pa_cons (pv 0) (pa_cons (pv 6) (pa_cons (pv 5) pa_nil)))))) (pss_cons (ps_set (i := 4) nd rfl (Or.inl rfl) (pe_op op_sub (pv 4) pe_int))
        (pss_cons (ps_set (i := 7) nd rfl (Or.inl rfl) (pv 3))
        (pss_cons (ps_if (pt_cmpR op_gt (pv 4) pe_int (nomark _)) (pss_one (ps_set (i := 7) nd rfl (Or.inl rfl) (pe_calm0 c_new_place hr (pv 0)))) pss_nil)
        (pss_cons (ps_expr (pe_cal c_lay_statement hr rfl (pa_cons (pv 0) (pa_cons (pv 6) (pa_cons (pv 5) (pa_cons (pv 7) pa_nil))))))
        (pss_one (ps_set (i := 5) nd rfl (Or.inl rfl) (pv 7)))))))))))))), ?_⟩
  obtain ⟨laying, rows, start, to, rfl, c, s, F0, rs, E0, p, q, num, rfl, ly, h1, rfl, rfl, hrs, hnew, en, hb, post⟩ := h
  have hlen := hrs.1
  obtain ⟨ra, vs, rfl, hra, hvs⟩ := h1.lst_inv
  have hvl : vs.length = rs.length := hvs.lenM
  refine ⟨_, rfl, _, rfl, F0, rs, ly.fh, h1, by omega, fun p1 H1 ys hp1 e1 hp2 hys => ?_⟩
  have hl : ys.length = (stm rs).length := hys.lenM
  have ly1 := ly.same e1
  have gr1 : Gr (own c s) F0 H F0 H1 := (Gr.refl ly.fh).same e1
  refine ⟨p1, _, rfl, .inl (SqL.of hp2), ?_⟩
  rw [hl]
  refine ⟨_, rfl, ?_⟩
  refine ⟨fun σ' H' => ∃ (here : Int) (F1 : Hp) (st0 : List Stp), σ' = [some (.ref c.l), some (.ref ra), some (.int p), some (.int q), some (.int ((stm rs).length : Nat)), some (.int here), none, none] ∧ Lstep K C c s F0 H { s with steps := s.steps ++ st0, bud := s.bud + 10 } F1 H' ∧
    ∀ st lb m', LayC (LayS s.hand num n) rs here q s.many st lb m' → LayR s.hand (LayS s.hand num n) rs p q s.many (st0 ++ st) lb m', ?_, ?_⟩
  · refine ⟨_, rfl, rfl, _, rfl, ?_⟩
    by_cases e0 : stm rs = []
    · refine ite_b (by rw [e0]; exact decide_eq_true rfl) ?_
      refine ⟨_, rfl, _, rfl, c.l, c.dx, lyF c s, rfl, ly1.at_, rfl, _, rfl, Nat.zero_le _, fun l hl0 => ?_⟩
      have ly2 := ly1.new (o := .lst []) hl0
      refine ⟨_, rfl, _, _, _, _, _, rfl, c, s, F0, p, q, TRk, l, [], [], rfl, ly2, rfl, rfl, h_TRUE _, ⟨[], TRk_ok⟩, rfl, upd_same, .nil, List.nodup_nil, Nat.zero_le _, by omega, fun F2 H2 ss' gr2 hss ly3 => ?_⟩
      cases List.perm_nil.mp hss
      refine ⟨q, F2, _, rfl, add_l (gr1.new (o := .lst []) hl0) gr2 ly3 (by omega), fun st lb m' hk => ?_⟩
      unfold LayR
      rw [if_pos e0]
      exact ⟨st, rfl, hk⟩
    · refine ite_nb (decide_eq_false fun z => e0 (List.eq_nil_of_length_eq_zero (by injection z with z; omega))) ?_
      refine ⟨p, F0, [], rfl, ⟨gr1, Says.refl s H, ?_⟩, fun st lb m' hk => ?_⟩
      · have := ly1.budM (b := s.bud + 10) (by omega)
        rw [List.append_nil]
        exact this
      · unfold LayR
        rw [if_neg e0]
        exact hk
  · rintro σ' H2 ⟨here, F1, st0, rfl, ls1, hk⟩
    refine ⟨_, rfl, ra, rfl, ⟨_, SqL.of (ls1.2.2.fh _ _ (ls1.1.ff _ _ hra))⟩, for_list (K := K) (a := ra) (xs := vs) (fun i σ H' => ∃ (here : Int) (F1 : Hp) (st0 : List Stp) (lb0 : List (Str × Int)) (ys : List ((Str × Int) × Addr × List Rk)) (as : List (Str × PyData)) (m1 : Int) (x y : Option V), σ = [some (.ref c.l), some (.ref ra), some (.int p), some (.int q), some (.int ((stm (rs.drop i)).length : Nat)), some (.int here), x, y] ∧
      Lstep K C c s F0 H { s with steps := s.steps ++ st0, labels := s.labels ++ labH s.hand lb0, says := ys, asked := as, many := m1, bud := s.bud + (10 + i * wX n) } F1 H' ∧ lb0.map (·.1) = lbs (rs.take i) ∧
      ∀ st lb m', LayC (LayS s.hand num n) (rs.drop i) here q m1 st lb m' → LayR s.hand (LayS s.hand num n) rs p q s.many (st0 ++ st) (lb0 ++ lb) m') ?_ (fun i σ H' _ ⟨_, F1, _, _, _, _, _, _, _, _, z, _⟩ => SqL.of (z.2.2.fh _ _ (z.1.ff _ _ hra))) ?_ ?_⟩
    · refine ⟨here, F1, st0, [], s.says, s.asked, s.many, none, none, rfl, ls1.to rfl rfl rfl (List.append_nil _) rfl rfl (by show s.bud + 10 ≤ s.bud + (10 + 0 * wX n); omega), rfl, fun st lb m' h => hk st lb m' h⟩
    · rintro i v σ H3 hi ⟨here, F2, st1, lb1, ys1, as1, m1, x, y, rfl, ls2, hlb, hk2⟩
      obtain ⟨r, hr', hv⟩ := hvs.getM hi
      have hilt := (List.getElem?_eq_some_iff.mp hr').1
      have hdrop : rs.drop i = r :: rs.drop (i + 1) := by
        rw [List.drop_eq_getElem_cons hilt]
        congr 1
        exact (List.getElem?_eq_some_iff.mp hr').2
      have htake : rs.take (i + 1) = rs.take i ++ [r] := by rw [List.take_succ, hr']; rfl
      obtain ⟨t, us, rfl, hw⟩ := Row.at_word hv
      have hv2 := hv.mono ls2.1.ff
      have hw2 := ls2.2.2.fh.tup (ls2.1.ff.tup hw)
      have hmem := List.mem_of_getElem? hr'
      have hcost : i * wX n + wX n ≤ rs.length * wX n := by
        have e : (i + 1) * wX n ≤ rs.length * wX n := Nat.mul_le_mul_right _ hilt
        rw [Nat.succ_mul] at e
        exact e
      have hsucc : (i + 1) * wX n = i * wX n + wX n := Nat.succ_mul _ _
      refine ⟨_, rfl, t, _, 0, _, rfl, rfl, hw2, at0, a_MARKS, _, rfl, .inr (h_MARKS _), rfl, by decide +kernel, _, rfl, ?_⟩
      by_cases hm : r.mark = true
      · refine ite_b ?_ ?_
        · show (if false = true then !inV (.str r.word) _ else inV (.str r.word) _) = true
          rw [if_neg (by decide), mark_in]
          exact hm
        have hn1 : 110 ≤ wX n := by
          have h1n : 1 ≤ n := by
            rcases hrs.2.2 r hmem with z | z
            · cases n with
              | zero => exact z.elim
              | succ n => omega
            · exact z.1
          cases n with
          | zero => omega
          | succ n => show 110 ≤ 410 + 20 * wX n; omega
        have hst : stm (rs.drop i) = stm (rs.drop (i + 1)) := by rw [hdrop, stm_mark hm]
        refine ⟨_, rfl, _, rfl, _, rfl, _, _, _, rfl, c, _, F2, r, here, rfl, ls2.2.2, hv2, rfl, by show s.bud + (10 + i * wX n) + 110 ≤ 16000000; omega, ?_⟩
        cases r with
        | label l =>
          refine .inl ⟨l, rfl, ?_, fun F3 H4 ls3 => ?_⟩
          · show (s.hand, l) ∉ (s.labels ++ labH s.hand lb1).map (·.1)
            rw [List.map_append]
            intro z
            have hsplit : rs = rs.take i ++ (Row.label l :: rs.drop (i + 1)) := by rw [← hdrop, List.take_append_drop]
            have hl1 : lbs rs = lbs (rs.take i) ++ (l :: lbs (rs.drop (i + 1))) := by
              have e : lbs rs = lbs (rs.take i ++ (Row.label l :: rs.drop (i + 1))) := congrArg lbs hsplit
              rw [e]
              unfold lbs
              rw [List.filterMap_append]
              rfl
            have hnd := hnew.1
            rw [hl1] at hnd
            rcases List.mem_append.mp z with z | z
            · exact hnew.2 l (by rw [hl1]; exact List.mem_append_right _ List.mem_cons_self) z
            · unfold labH at z
              rw [List.map_map] at z
              obtain ⟨b, hb1, hb2⟩ := List.mem_map.mp z
              have hb3 : b.1 = l := (Prod.mk.inj hb2).2
              have hb4 : l ∈ lbs (rs.take i) := by
                rw [← hlb, ← hb3]
                exact List.mem_map.mpr ⟨b, hb1, rfl⟩
              exact (List.nodup_append.mp hnd).2.2 l hb4 l List.mem_cons_self rfl
          · refine ⟨here, F3, st1, lb1 ++ [(l, here)], ys1, as1, m1, _, y, by rw [hst]; rfl, (ls2.trans ls3).to rfl rfl rfl ?_ rfl rfl (by show s.bud + (10 + i * wX n) + 110 ≤ s.bud + (10 + (i + 1) * wX n); omega), ?_, fun st lb m' h => ?_⟩
            · show s.labels ++ labH s.hand (lb1 ++ [(l, here)]) = s.labels ++ labH s.hand lb1 ++ [((s.hand, l), here)]
              unfold labH
              rw [List.map_append, List.append_assoc]
              rfl
            · rw [htake, List.map_append, hlb]
              unfold lbs
              rw [List.filterMap_append]
              rfl
            · rw [List.append_assoc]
              refine hk2 st _ m' ?_
              rw [hdrop]
              unfold LayC
              rw [if_pos hm]
              exact ⟨lb, rfl, h⟩
        | say rk =>
          have ok : (Row.say rk).Ok E0 n := by
            rcases hrs.2.2 _ hmem with z | z
            · exact z
            · obtain ⟨_, l, z⟩ := z
              cases z
          cases n with
          | zero => exact ok.elim
          | succ n =>
          refine .inr ⟨rk, E0.all, rfl, by rw [← en.hands]; exact ok, en.all_, fun F3 H4 ys2 as2 ls3 => ?_⟩
          refine ⟨here, F3, st1, lb1, ys2, as2, m1, _, y, by rw [hst]; rfl, (ls2.trans ls3).to rfl rfl rfl rfl rfl rfl (by show s.bud + (10 + i * wX (n + 1)) + 110 ≤ s.bud + (10 + (i + 1) * wX (n + 1)); omega), ?_, fun st lb m' h => ?_⟩
          · rw [htake, hlb]
            unfold lbs
            rw [List.filterMap_append]
            exact (List.append_nil _).symm
          · refine hk2 st _ m' ?_
            rw [hdrop]
            unfold LayC
            rw [if_pos hm]
            exact ⟨lb, rfl, h⟩
        | _ => cases hm
      · have hmf : r.mark = false := by
          cases e : r.mark with
          | true => exact absurd e hm
          | false => rfl
        refine ite_nb ?_ ?_
        · show (if false = true then !inV (.str r.word) _ else inV (.str r.word) _) = false
          rw [if_neg (by decide), mark_in]
          exact hmf
        have ok : r.Ok E0 n := by
          rcases hrs.2.2 _ hmem with z | ⟨_, l, z⟩
          · exact z
          · rw [z] at hmf
            cases hmf
        have hst : stm (rs.drop i) = r :: stm (rs.drop (i + 1)) := by rw [hdrop, stm_cons hmf]
        have hlb2 : lb1.map (·.1) = lbs (rs.take (i + 1)) := by
          rw [htake, hlb]
          unfold lbs
          rw [List.filterMap_append]
          cases r <;> first | exact (List.append_nil _).symm | cases hmf
        have hleft : ((stm (rs.drop i)).length : Int) - 1 = ((stm (rs.drop (i + 1))).length : Nat) := by
          rw [hst, List.length_cons]
          omega
        refine ⟨_, rfl, _, _, rfl, rfl, _, rfl, _, rfl, _, _, rfl, rfl, _, rfl, ?_⟩
        by_cases e0 : stm (rs.drop (i + 1)) = []
        · have hz : (stm (rs.drop (i + 1))).length = 0 := by rw [e0]; rfl
          refine ite_nb (decide_eq_false (by omega)) ?_
          refine ⟨_, rfl, _, rfl, _, rfl, _, rfl, _, _, _, _, rfl, c, _, F2, r, E0, here, q, num, rfl, ls2.2.2, hv2, rfl, rfl, hmf, ok, hrs.2.1, en, by show s.bud + (10 + i * wX n) + wX n ≤ 16000000; omega, fun F3 H4 st2 ys2 as2 m2 ls3 hlay => ?_⟩
          refine ⟨_, rfl, q, F3, st1 ++ st2, lb1, ys2, as2, m2, _, _, by rw [← hleft]; rfl, (ls2.trans ls3).to rfl rfl (by rw [List.append_assoc]) rfl rfl rfl (by show s.bud + (10 + i * wX n) + wX n ≤ s.bud + (10 + (i + 1) * wX n); omega), hlb2, fun st lb m' h => ?_⟩
          rw [List.append_assoc]
          refine hk2 _ lb m' ?_
          rw [hdrop]
          unfold LayC
          rw [if_neg hm, if_pos e0]
          exact ⟨st2, st, m2, rfl, hlay, h⟩
        · have hpos : 0 < (stm (rs.drop (i + 1))).length := List.length_pos_iff.mpr e0
          refine ite_b (decide_eq_true (by omega)) ?_
          refine ⟨_, rfl, c.l, c.dx, lyF c _, rfl, ls2.2.2.at_, rfl, _, rfl, c, _, F2, rfl, ls2.2.2, fun H4 gr4 ly4 => ?_⟩
          have ls4 := Lstep.mk' gr4 ly4 rfl
          refine ⟨_, rfl, _, rfl, _, rfl, _, rfl, _, _, _, _, rfl, c, _, F2, r, E0, here, m1, num, rfl, ly4, hv2, rfl, rfl, hmf, ok, hrs.2.1, en, by show s.bud + (10 + i * wX n) + wX n ≤ 16000000; omega, fun F3 H5 st2 ys2 as2 m2 ls3 hlay => ?_⟩
          refine ⟨_, rfl, m1, F3, st1 ++ st2, lb1, ys2, as2, m2, _, _, by rw [← hleft]; rfl, ((ls2.trans ls4).trans ls3).to rfl rfl (by rw [List.append_assoc]) rfl rfl rfl (by show s.bud + (10 + i * wX n) + wX n ≤ s.bud + (10 + (i + 1) * wX n); omega), hlb2, fun st lb m' h => ?_⟩
          rw [List.append_assoc]
          refine hk2 _ lb m' ?_
          rw [hdrop]
          unfold LayC
          rw [if_neg hm, if_neg e0]
          exact ⟨st2, st, m2, rfl, hlay, h⟩
    · rintro σ H3 ⟨here, F2, st1, lb1, ys1, as1, m1, x, y, rfl, ls2, hlb, hk2⟩
      rw [hvl] at ls2 hk2
      refine post _ _ _ _ _ _ _ ls2 ?_
      have z := hk2 [] [] m1 (by rw [List.drop_length]; exact ⟨rfl, rfl, rfl⟩)
      rw [List.append_nil, List.append_nil] at z
      exact z
end
end Ca
namespace Ca
open PySem L2
section
variable {P : Program} {w : World} {K : PySem.W.Frag} {mg : Str → Option Value} {base : Heap} {C : Addr}
theorem rows_cost {n : Nat} {a : List Row} (h : a.length ≤ 4) : 10 + a.length * wX n ≤ 10 + 4 * wX n := Nat.add_le_add_left (Nat.mul_le_mul_right _ h) _
theorem labH_nil {h : Str} {l : List ((Str × Str) × Int)} : l ++ labH h [] = l := List.append_nil _
theorem ok_lwhile {n k : Nat} (F : FunAt K mg "lay_while" s_lay_while) (G : Glb K mg) (L : LCls K C) (c_want_remark : Cal P w K mg base "want_remark" 4 ["laying", "remark", "any_box"] (spWantR K C))
    (c_new_place : Met P w K mg base C "new_place" 1 ["self"] (spNewp K C)) (c_add_step : Met P w K mg base C "add_step" 1 ["self", "start", "guard", "sets", "to"] (spAdd K C)) (c_lay_rows : Cal P w K mg base "lay_rows" (k + 6) ["laying", "rows", "start", "to"] (spRowsL K C n)) :
    Cal P w K mg base "lay_while" (k + 7) ["laying", "row", "start", "to"] (spKind K C (n + 1) fun r => ∃ r0 a, r = .whl r0 a) := by
  refine F.cal sc_lay_while Sp4.len (fun _ _ _ _ _ _ us hl => match us, hl with | [_, _, _, _], _ => rfl) fun f cdv A outer s H vs Q E hr h => ?_
  have nd := sc_lay_while.nd
  have hu := hu_of hr
  refine ⟨_, (pss_cons (ps_expr (pe_cal c_want_remark hr rfl (pa_cons (pv 0) (pa_cons (pe_ix ix_tup (pv 1) pe_int (fun _ _ => rfl)) (pa_cons pe_bl pa_nil)))))
    (pss_cons (ps_set (i := 4) nd rfl (Or.inl rfl) (pe_calm0 c_new_place hr (pv 0)))
    (pss_cons (ps_expr (pe_calm c_add_step hr (pv 0) (pa_cons (pv 2) (pa_cons (pe_ix ix_tup (pv 1) pe_int (fun _ _ => rfl)) (pa_cons (pe_lst pa_nil) (pa_cons (pv 4) pa_nil))))))
    (pss_cons (ps_expr (pe_calm c_add_step hr (pv 0) (pa_cons (pv 2) (pa_cons (pe_tup (pa_cons pe_str (pa_cons (pe_ix ix_tup (pv 1) pe_int (fun _ _ => rfl)) pa_nil))) (pa_cons (pe_lst pa_nil) (pa_cons (pv 3) pa_nil))))))
    (pss_one (ps_expr (pe_cal c_lay_rows hr rfl (pa_cons (pv 0) (pa_cons (pe_ix ix_tup (pv 1) pe_int (fun _ _ => rfl)) (pa_cons (pv 4) (pa_cons (pv 2) pa_nil))))))))))), ?_⟩
  obtain ⟨laying, row, start, to, rfl, c, s, F0, r, E0, p, q, num, rfl, ly, h1, rfl, rfl, ⟨r0, a, rfl⟩, ok, hn, en, hb, post⟩ := h
  obtain ⟨t, x, y, rfl, h2, h3, h4⟩ := Row.at_whl h1
  have hwx : wX (n + 1) = 410 + 20 * wX n := rfl
  have hco := rows_cost (n := n) ok.2.1
  refine ⟨_, rfl, _, rfl, t, _, 1, _, rfl, rfl, ly.fh.tup h2, at1, _, _, _, rfl, c, s, F0, r0, false, rfl, ly, h3, rfl, Rk.sz_of 2 r0 ok.1, en.nm ok.1, en.ats ok.1, by omega, fun H1 gr1 ly1 => ?_⟩
  have ls1 := Lstep.mk' gr1 ly1 rfl
  refine ⟨_, rfl, c.l, c.dx, lyF c _, rfl, ly1.at_, rfl, _, rfl, c, _, F0, rfl, ly1, fun H2 gr2 ly2 => ?_⟩
  have ls2 := ls1.trans (Lstep.mk' gr2 ly2 rfl)
  refine ⟨_, rfl, c.l, c.dx, lyF c _, rfl, ly2.at_, rfl, _, rfl, _, rfl, t, _, 1, _, rfl, rfl, ly2.fh.tup h2, at1, Nat.zero_le _, fun l hl0 => ?_⟩
  have ly3 := ly2.new (o := .lst []) hl0
  refine ⟨_, rfl, _, _, _, _, _, rfl, c, _, F0, p, s.many, r0, l, [], [], rfl, ly3, rfl, rfl, h3, ⟨_, Rk.Ok.up 2 r0 (by rw [← en.hands]; exact ok.1)⟩, rfl, upd_same, .nil, List.nodup_nil, Nat.zero_le _, by show s.bud + 100 + 1 ≤ 16000000; omega, fun F4 H4 ss' gr4 hss ly4 => ?_⟩
  cases List.perm_nil.mp hss
  have ls4 := ls2.trans (Lstep.mk' (((Gr.refl ly2.fh).new (o := .lst []) hl0).trans gr4) ly4 rfl)
  refine ⟨_, rfl, c.l, c.dx, lyF c _, rfl, ly4.at_, rfl, _, rfl, _, rfl, t, _, 1, _, rfl, rfl, ly4.fh.tup (ls4.1.ff.tup h2), at1, (by show 2 ≤ sizeLine; decide), fun g hg => ?_⟩
  have ly5 := ly4.newF (o := .tup [.str "not", x]) hg
  have s5 := Same.new (o := .tup [.str "not", x]) (ly4.fh.free hg)
  refine ⟨Nat.zero_le _, fun l2 hl2 => ?_⟩
  have ly6 := ly5.new (o := .lst []) hl2
  refine ⟨_, rfl, _, _, _, _, _, rfl, c, _, _, p, q, .not r0, l2, [], [], rfl, ly6, rfl, rfl, .tup (SqT.of upd_same) (.cons (.str _) (.cons ((h3.mono ls4.1.ff).mono s5) .nil)), ⟨E0.mine ++ E0.locks, (by rw [← en.hands]; exact ok.1)⟩, rfl, upd_same, .nil, List.nodup_nil, Nat.zero_le _, by show s.bud + 100 + 1 + 1 ≤ 16000000; omega, fun F7 H7 ss2 gr7 hss2 ly7 => ?_⟩
  cases List.perm_nil.mp hss2
  have ls7 := ls4.trans (Lstep.mk' ((((Gr.refl ly4.fh).newF (o := .tup [.str "not", x]) hg).new (o := .lst []) hl2).trans gr7) ly7 rfl)
  refine ⟨_, rfl, _, rfl, t, _, 2, _, rfl, rfl, ly7.fh.tup (ls7.1.ff.tup h2), rfl, _, rfl, _, rfl, _, _, _, _, rfl, c, _, F7, a, E0, s.many, p, num, rfl, ly7, h4.mono ls7.1.ff, rfl, rfl, rowsL_of (by have := ok.2.1; omega) (by omega) ok.2.2, NewL.none (lbs_ok ok.2.2), ⟨en.mine, en.locks, en.hands, en.all_, en.nd, en.at_⟩, by show s.bud + 100 + 1 + 1 + (10 + a.length * wX n) ≤ 16000000; omega, fun F8 H8 st ys as m' lb ls8 hlay => ?_⟩
  have hlb := layR_lab (lbs_ok ok.2.2) hlay
  subst hlb
  refine post _ _ ([⟨s.hand, p, r0, [], s.many⟩, ⟨s.hand, p, .not r0, [], q⟩] ++ st) ys as m' ((ls7.trans ls8).to rfl rfl ?_ labH_nil.symm rfl rfl (by show s.bud + 100 + 1 + 1 + (10 + a.length * wX n) ≤ s.bud + wX (n + 1); omega)) ⟨st, rfl, hlay⟩
  show s.steps ++ ([⟨s.hand, p, r0, [], s.many⟩, ⟨s.hand, p, .not r0, [], q⟩] ++ st) = s.steps ++ [⟨s.hand, p, r0, [], s.many⟩] ++ [⟨s.hand, p, .not r0, [], q⟩] ++ st
  simp
theorem ok_lif {n k : Nat} (F : FunAt K mg "lay_if" s_lay_if) (G : Glb K mg) (L : LCls K C) (c_want_remark : Cal P w K mg base "want_remark" 4 ["laying", "remark", "any_box"] (spWantR K C))
    (c_new_place : Met P w K mg base C "new_place" 1 ["self"] (spNewp K C)) (c_add_step : Met P w K mg base C "add_step" 1 ["self", "start", "guard", "sets", "to"] (spAdd K C)) (c_lay_rows : Cal P w K mg base "lay_rows" (k + 6) ["laying", "rows", "start", "to"] (spRowsL K C n)) :
    Cal P w K mg base "lay_if" (k + 7) ["laying", "row", "start", "to"] (spKind K C (n + 1) fun r => ∃ r0 a b, r = .iff r0 a b) := by
  refine F.cal sc_lay_if Sp4.len (fun _ _ _ _ _ _ us hl => match us, hl with | [_, _, _, _], _ => rfl) fun f cdv A outer s H vs Q E hr h => ?_
  have nd := sc_lay_if.nd
  have hu := hu_of hr
  refine ⟨_, (pss_cons (ps_expr (pe_cal c_want_remark hr rfl (pa_cons (pv 0) (pa_cons (pe_ix ix_tup (pv 1) pe_int (fun _ _ => rfl)) (pa_cons pe_bl pa_nil)))))
    (pss_cons (ps_set (i := 4) nd rfl (Or.inl rfl) (pe_calm0 c_new_place hr (pv 0)))
    (pss_cons (ps_set (i := 5) nd rfl (Or.inl rfl) (pv 3))
    (Evl.pss_cut (ps_if (pt_cmpR (op_neD hr.units) (pe_ix ix_tup (pv 1) pe_int (fun _ _ => rfl)) (pe_lst pa_nil) (nomark _)) (pss_one (ps_set (i := 5) nd rfl (Or.inl rfl) (pe_calm0 c_new_place hr (pv 0)))) pss_nil)
    (pss_cons (ps_expr (pe_calm c_add_step hr (pv 0) (pa_cons (pv 2) (pa_cons (pe_ix ix_tup (pv 1) pe_int (fun _ _ => rfl)) (pa_cons (pe_lst pa_nil) (pa_cons (pv 4) pa_nil))))))
    (pss_cons (ps_expr (pe_calm c_add_step hr (pv 0) (pa_cons (pv 2) (pa_cons (pe_tup (pa_cons pe_str (pa_cons (pe_ix ix_tup (pv 1) pe_int (fun _ _ => rfl)) pa_nil))) (pa_cons (pe_lst pa_nil) (pa_cons (pv 5) pa_nil))))))
    (pss_cons (ps_expr (pe_cal c_lay_rows hr rfl (pa_cons (pv 0) (pa_cons (pe_ix ix_tup (pv 1) pe_int (fun _ _ => rfl)) (pa_cons (pv 4) (pa_cons (pv 3) pa_nil))))))
    (pss_one (ps_if (pt_cmpR (op_neD hr.units) (pe_ix ix_tup (pv 1) pe_int (fun _ _ => rfl)) (pe_lst pa_nil) (nomark _)) (pss_one (ps_expr (pe_cal c_lay_rows hr rfl (pa_cons (pv 0) (pa_cons (pe_ix ix_tup (pv 1) pe_int (fun _ _ => rfl)) (pa_cons (pv 5) (pa_cons (pv 3) pa_nil))))))) pss_nil))))))))), ?_⟩
  obtain ⟨laying, row, start, to, rfl, c, s, F0, r, E0, p, q, num, rfl, ly, h1, rfl, rfl, ⟨r0, a, b, rfl⟩, ok, hn, en, hb, post⟩ := h
  obtain ⟨t, x, y, z, rfl, h2, h3, h4, h5⟩ := Row.at_iff h1
  have hwx : wX (n + 1) = 410 + 20 * wX n := rfl
  have hco := rows_cost (n := n) ok.2.1
  have hco2 := rows_cost (n := n) ok.2.2.2.1
  have hshape : SeqAt.shaped (rd b) = true := (lay_rd ok.2.2.2.2).shaped (by omega)
  refine ⟨_, rfl, _, rfl, t, _, 1, _, rfl, rfl, ly.fh.tup h2, at1, _, _, _, rfl, c, s, F0, r0, false, rfl, ly, h3, rfl, Rk.sz_of 2 r0 ok.1, en.nm ok.1, en.ats ok.1, by omega, fun H1 gr1 ly1 => ?_⟩
  have ls1 := Lstep.mk' gr1 ly1 rfl
  refine ⟨_, rfl, c.l, c.dx, lyF c _, rfl, ly1.at_, rfl, _, rfl, c, _, F0, rfl, ly1, fun H2 gr2 ly2 => ?_⟩
  have ls2 := ls1.trans (Lstep.mk' gr2 ly2 rfl)
  refine ⟨_, rfl, ?_⟩
  refine ⟨fun σ' H' => ∃ as, σ' = [some (.ref c.l), some (.ref t), some (.int p), some (.int q), some (.int s.many), some (.int (if b = [] then q else s.many + 1))] ∧ Lstep K C c s F0 H { s with asked := as, many := (if b = [] then s.many + 1 else s.many + 2), bud := s.bud + 100 } F0 H', ?_, ?_⟩
  · refine ⟨_, rfl, t, _, 3, _, rfl, rfl, ly2.fh.tup h2, rfl, Nat.zero_le _, fun l hl0 => ?_⟩
    have e3 : Same H2 (upd H2 l (.lst [])) := Same.new hl0
    have ly3 := ly2.new (o := .lst []) hl0
    have ls3 := ls2.trans (Lstep.mk' ((Gr.refl (O := own c s) ly2.fh).new (o := .lst []) hl0) ly3 rfl)
    refine ⟨rd b, .list [], (h5.mono ly3.fh).dp, .lst (SqL.of upd_same) .nil, hshape, rfl, _, rfl, ?_⟩
    by_cases eb : b = []
    · subst eb
      refine ite_nb (by rfl) ⟨_, rfl, ls3⟩
    · refine ite_b ?_ ?_
      · unfold rd
        rw [eqv_nil]
        cases b with
        | nil => exact absurd rfl eb
        | cons _ _ => rfl
      · refine ⟨_, rfl, c.l, c.dx, lyF c _, rfl, ly3.at_, rfl, _, rfl, c, _, F0, rfl, ly3, fun H4 gr4 ly4 => ?_⟩
        refine ⟨_, ?_, (ls3.trans (Lstep.mk' gr4 ly4 rfl)).to rfl ?_ rfl rfl rfl rfl (Nat.le_refl _)⟩
        · rw [if_neg eb]
          rfl
        · show (if b = [] then s.many + 1 else s.many + 2) = s.many + 1 + 1
          rw [if_neg eb]
          omega
  · rintro σ' H2 ⟨as0, rfl, ls2⟩
    have ly2 := ls2.2.2
    obtain ⟨sec, hsec⟩ : ∃ sec, sec = if b = [] then q else s.many + 1 := ⟨_, rfl⟩
    obtain ⟨mm, hmm⟩ : ∃ mm, mm = if b = [] then s.many + 1 else s.many + 2 := ⟨_, rfl⟩
    rw [← hmm] at ls2 ly2
    rw [← hsec]
    refine ⟨_, rfl, c.l, c.dx, lyF c _, rfl, ly2.at_, rfl, _, rfl, _, rfl, t, _, 1, _, rfl, rfl, ly2.fh.tup h2, at1, Nat.zero_le _, fun l hl0 => ?_⟩
    have ly3 := ly2.new (o := .lst []) hl0
    refine ⟨_, rfl, _, _, _, _, _, rfl, c, _, F0, p, s.many, r0, l, [], [], rfl, ly3, rfl, rfl, h3, ⟨_, Rk.Ok.up 2 r0 (by rw [← en.hands]; exact ok.1)⟩, rfl, upd_same, .nil, List.nodup_nil, Nat.zero_le _, by show s.bud + 100 + 1 ≤ 16000000; omega, fun F4 H4 ss' gr4 hss ly4 => ?_⟩
    cases List.perm_nil.mp hss
    have ls4 := ls2.trans (Lstep.mk' (((Gr.refl ly2.fh).new (o := .lst []) hl0).trans gr4) ly4 rfl)
    refine ⟨_, rfl, c.l, c.dx, lyF c _, rfl, ly4.at_, rfl, _, rfl, _, rfl, t, _, 1, _, rfl, rfl, ly4.fh.tup (ls4.1.ff.tup h2), at1, (by show 2 ≤ sizeLine; decide), fun g hg => ?_⟩
    have ly5 := ly4.newF (o := .tup [.str "not", x]) hg
    have s5 := Same.new (o := .tup [.str "not", x]) (ly4.fh.free hg)
    refine ⟨Nat.zero_le _, fun l2 hl2 => ?_⟩
    have ly6 := ly5.new (o := .lst []) hl2
    refine ⟨_, rfl, _, _, _, _, _, rfl, c, _, _, p, sec, .not r0, l2, [], [], rfl, ly6, rfl, rfl, .tup (SqT.of upd_same) (.cons (.str _) (.cons ((h3.mono ls4.1.ff).mono s5) .nil)), ⟨E0.mine ++ E0.locks, (by rw [← en.hands]; exact ok.1)⟩, rfl, upd_same, .nil, List.nodup_nil, Nat.zero_le _, by show s.bud + 100 + 1 + 1 ≤ 16000000; omega, fun F7 H7 ss2 gr7 hss2 ly7 => ?_⟩
    cases List.perm_nil.mp hss2
    have ls7 := ls4.trans (Lstep.mk' ((((Gr.refl ly4.fh).newF (o := .tup [.str "not", x]) hg).new (o := .lst []) hl2).trans gr7) ly7 rfl)
    refine ⟨_, rfl, _, rfl, t, _, 2, _, rfl, rfl, ly7.fh.tup (ls7.1.ff.tup h2), rfl, _, rfl, _, rfl, _, _, _, _, rfl, c, _, F7, a, E0, s.many, q, num, rfl, ly7, h4.mono ls7.1.ff, rfl, rfl, rowsL_of (by have := ok.2.1; omega) (by omega) ok.2.2.1, NewL.none (lbs_ok ok.2.2.1), ⟨en.mine, en.locks, en.hands, en.all_, en.nd, en.at_⟩, by show s.bud + 100 + 1 + 1 + (10 + a.length * wX n) ≤ 16000000; omega, fun F8 H8 st ys as m' lb ls8 hlay => ?_⟩
    have hlb := layR_lab (lbs_ok ok.2.2.1) hlay
    subst hlb
    have ls9 := ls7.trans ls8
    have ly9 := ls8.2.2
    refine ⟨_, rfl, t, _, 3, _, rfl, rfl, ly9.fh.tup (ls9.1.ff.tup h2), rfl, Nat.zero_le _, fun l3 hl3 => ?_⟩
    have ly10 := ly9.new (o := .lst []) hl3
    have ls10 := ls9.trans (Lstep.mk' ((Gr.refl ly9.fh).new (o := .lst []) hl3) ly10 rfl)
    refine ⟨rd b, .list [], ((h5.mono ls9.1.ff).mono ly10.fh).dp, .lst (SqL.of upd_same) .nil, hshape, rfl, _, rfl, ?_⟩
    by_cases eb : b = []
    · subst eb
      refine ite_nb (by rfl) ?_
      rw [if_pos rfl] at hsec hmm
      subst sec mm
      refine post _ _ ([⟨s.hand, p, r0, [], s.many⟩, ⟨s.hand, p, .not r0, [], q⟩] ++ st) ys as m' (ls10.to rfl rfl ?_ labH_nil.symm rfl rfl (by show s.bud + 100 + 1 + 1 + (10 + a.length * wX n) ≤ s.bud + wX (n + 1); omega)) ?_
      · show s.steps ++ ([⟨s.hand, p, r0, [], s.many⟩, ⟨s.hand, p, .not r0, [], q⟩] ++ st) = s.steps ++ [⟨s.hand, p, r0, [], s.many⟩] ++ [⟨s.hand, p, .not r0, [], q⟩] ++ st
        simp
      · show LayS s.hand num (n + 1) (.iff r0 a []) p q s.many _ m'
        unfold LayS
        rw [if_pos rfl]
        exact ⟨st, rfl, hlay⟩
    · refine ite_b ?_ ?_
      · unfold rd
        rw [eqv_nil]
        cases b with
        | nil => exact absurd rfl eb
        | cons _ _ => rfl
      · rw [if_neg eb] at hsec hmm
        subst sec mm
        refine ⟨_, rfl, _, rfl, t, _, 3, _, rfl, rfl, ly10.fh.tup (ls10.1.ff.tup h2), rfl, _, rfl, _, rfl, _, _, _, _, rfl, c, _, F8, b, E0, s.many + 1, q, num, rfl, ly10, h5.mono ls10.1.ff, rfl, rfl, rowsL_of (by have := ok.2.2.2.1; omega) (by omega) ok.2.2.2.2, NewL.none (lbs_ok ok.2.2.2.2), ⟨en.mine, en.locks, en.hands, en.all_, en.nd, en.at_⟩, by show s.bud + 100 + 1 + 1 + (10 + a.length * wX n) + (10 + b.length * wX n) ≤ 16000000; omega, fun F11 H11 st2 ys2 as2 m2 lb2 ls11 hlay2 => ?_⟩
        have hlb2 := layR_lab (lbs_ok ok.2.2.2.2) hlay2
        subst hlb2
        refine post _ _ ([⟨s.hand, p, r0, [], s.many⟩, ⟨s.hand, p, .not r0, [], s.many + 1⟩] ++ (st ++ st2)) ys2 as2 m2 ((ls10.trans ls11).to rfl rfl ?_ ?_ rfl rfl (by show s.bud + 100 + 1 + 1 + (10 + a.length * wX n) + (10 + b.length * wX n) ≤ s.bud + wX (n + 1); omega)) ?_
        · show s.steps ++ ([⟨s.hand, p, r0, [], s.many⟩, ⟨s.hand, p, .not r0, [], s.many + 1⟩] ++ (st ++ st2)) = s.steps ++ [⟨s.hand, p, r0, [], s.many⟩] ++ [⟨s.hand, p, .not r0, [], s.many + 1⟩] ++ st ++ st2
          simp
        · show s.labels = s.labels ++ labH s.hand [] ++ labH s.hand []
          rw [labH_nil, labH_nil]
        · show LayS s.hand num (n + 1) (.iff r0 a b) p q s.many _ m2
          unfold LayS
          rw [if_neg eb]
          exact ⟨st, st2, m', rfl, hlay, hlay2⟩
end
end Ca
namespace Ca
open PySem L2
abbrev s_lay_either : Stmt := top 30
abbrev N_lay_either : List Str := ["laying", "row", "start", "to", "places", "place", "k", "rows"]
theorem sc_lay_either : FnScope N_lay_either ["laying", "row", "start", "to"] (defScope s_lay_either) := ⟨rfl, rfl, rfl, by decide +kernel, rfl, by decide +kernel, by decide +kernel⟩
-- cells: ['laying']  slots: 0=laying 1=row 2=start 3=to 4=places 5=place 6=k 7=rows
abbrev s_lay_statement : Stmt := top 31
abbrev N_lay_statement : List Str := ["laying", "row", "start", "to", "rows", "k"]
theorem sc_lay_statement : FnScope N_lay_statement ["laying", "row", "start", "to"] (defScope s_lay_statement) := ⟨rfl, rfl, rfl, by decide +kernel, rfl, by decide +kernel, by decide +kernel⟩
-- cells: []  slots: 0=laying 1=row 2=start 3=to 4=rows 5=k
section
variable {P : Program} {w : World} {K : PySem.W.Frag} {mg : Str → Option Value} {base : Heap} {C : Addr}
theorem LyAt.put {c : Lc} {s : Ls} {F H : Hp} {p : Addr} {o : HO} (a : LyAt K C c s F H) (n : F p = none) (w : ¬ own c s p) : LyAt K C c s F (upd H p o) :=
  a.keep (Same.refl F) (a.fh.mut n) fun b u e z => ⟨upd_at e fun y => w (y ▸ z), (a.ownAt z).1⟩
theorem LyAt.notOwn {c : Lc} {s : Ls} {F H : Hp} {p : Addr} (a : LyAt K C c s F H) (h : H p = none) : ¬ own c s p := fun w => by
  obtain ⟨_, o, e⟩ := a.ownAt w
  rw [h] at e
  cases e
theorem eithers_succ (h : Str) (p m : Int) (k : Nat) : eithers h p m (k + 1) = eithers h p m k ++ [⟨h, p, TRk, [], m + (k : Int)⟩] := by
  unfold eithers
  rw [List.range_succ, List.map_append]
  rfl
theorem ok_leither {n k : Nat} (F : FunAt K mg "lay_either" s_lay_either) (G : Glb K mg) (L : LCls K C)
    (c_new_place : Met P w K mg base C "new_place" 1 ["self"] (spNewp K C)) (c_add_step : Met P w K mg base C "add_step" 1 ["self", "start", "guard", "sets", "to"] (spAdd K C)) (c_lay_rows : Cal P w K mg base "lay_rows" (k + 6) ["laying", "rows", "start", "to"] (spRowsL K C n)) :
    Cal P w K mg base "lay_either" (k + 7) ["laying", "row", "start", "to"] (spKind K C (n + 1) fun r => ∃ ws, r = .either ws) := by
  refine F.cal sc_lay_either Sp4.len (fun _ _ _ _ _ _ us hl => match us, hl with | [_, _, _, _], _ => rfl) fun f cdv A outer s H vs Q E hr h => ?_
  have nd := sc_lay_either.nd
  have hu := hu_of hr
  obtain ⟨a_TRUE, m_TRUE, h_TRUE⟩ := G.TRUE
  have m_len := G.len
  have m_range := G.range
  refine ⟨_, (pss_cons (ps_setLc (i := 4) rfl nd rfl rfl (sw_true rfl rfl rfl (by decide +kernel)) (own := [("rows", 7)]) (g := (gName 7)) (tt := tYes) (pi_tup (pe_ix ix_tup (pv 1) pe_int (fun _ _ => rfl))) (blkOk_by (own := [("rows", 7)]) (N := N_lay_either) (sc := defScope s_lay_either) (by decide +kernel)) (fun _ _ _ _ _ => (pg_name (i := 7) nd rfl (Or.inl rfl))) (fun _ _ _ _ _ => pts_nil) (fun _ _ _ _ _ => (pe_calm0 c_new_place hr (pv 0))))
    (pss_cons (ps_for PassesOwn.never rfl (pi_list (pv 4)) (pg_name (i := 5) nd rfl (Or.inl rfl))
      (pss_one (ps_expr (pe_calm c_add_step hr (pv 0) (pa_cons (pv 2) (pa_cons (pe_glob (v := .ref a_TRUE) rfl m_TRUE rfl) (pa_cons (pe_lst pa_nil) (pa_cons (pv 5) pa_nil))))))))
    (pss_one (ps_for PassesOwn.never rfl (pi_range1 rfl m_range (pa_cons (pe_callB call_len_seq (by rfl) m_len (by decide +kernel) (pa_cons (pv 4) pa_nil)) pa_nil)) (pg_name (i := 6) nd rfl (Or.inl rfl))
      (pss_one (ps_expr (pe_cal c_lay_rows hr rfl (pa_cons (pv 0) (pa_cons (pe_ix ix_tup (pe_ix ix_tup (pv 1) pe_int (fun _ _ => rfl)) (pv 6) (fun _ _ => rfl)) (pa_cons (pe_ix ix_list (pv 4) (pv 6) (fun _ _ => rfl)) (pa_cons (pv 3) pa_nil))))))))))), ?_⟩
  obtain ⟨laying, row, start, to, rfl, c, s, F0, r, E0, p, q, num, rfl, ly, h1, rfl, rfl, ⟨ws, rfl⟩, ok, hn, en, hb, post⟩ := h
  obtain ⟨t, u, xs, rfl, h2, h3, h4⟩ := Row.at_either h1
  have hwx : wX (n + 1) = 410 + 20 * wX n := rfl
  have hwl := ok.2.1
  have hxl : xs.length = ws.length := h4.lenM
  refine ⟨_, rfl, t, _, 1, _, rfl, rfl, ly.fh.tup h2, at1, u, rfl, ⟨_, ly.fh.tup h3⟩, fun D hD => lc_tup (K := K) (a := u) (xs := xs)
    (fun i H' => Gr (own c s) F0 H F0 H' ∧ LyAt K C c { s with many := s.many + (i : Nat) } F0 H' ∧ H' D = some (.lst ((List.range i).map fun j : Nat => V.int (s.many + (j : Int))))) ⟨(Gr.refl ly.fh).new hD, ?_, upd_same⟩ (fun i H' _ z => z.2.1.fh.tup h3) ?_ ?_⟩
  · have e : ({ s with many := s.many + ((0 : Nat) : Int) } : Ls) = s := by
      show ({ s with many := s.many + 0 } : Ls) = s
      rw [Int.add_zero]
    rw [e]
    exact ly.new hD
  · rintro i v H' hi ⟨g1, a1, d1⟩
    refine ⟨rfl, _, rfl, c.l, c.dx, lyF c _, rfl, a1.at_, rfl, _, rfl, c, _, F0, rfl, a1, fun H2 gr2 ly2 => ?_⟩
    have hno : ¬ own c s D := ly.notOwn hD
    have d2 := gr2.kp _ _ d1 hno
    have hil := (List.getElem?_eq_some_iff.mp hi).1
    refine ⟨_, d2, ?_, (g1.trans gr2).set (ly.fh.free hD) d2 (.inr hD), ?_, ?_⟩
    · rw [List.length_map, List.length_range, sizeLine_eq]
      omega
    · have z := ly2.put (o := .lst (((List.range i).map fun j : Nat => V.int (s.many + (j : Int))) ++ [.int (s.many + (i : Int))])) (ly.fh.free hD) hno
      have e : ({ s with many := s.many + ((i + 1 : Nat) : Int) } : Ls) = { s with many := s.many + (i : Int) + 1 } := by
        have : s.many + ((i + 1 : Nat) : Int) = s.many + (i : Int) + 1 := by omega
        rw [this]
      rw [e]
      exact z
    · rw [upd_same, List.range_succ, List.map_append]
      rfl
  · rintro H2 ⟨g1, a1, d1⟩
    rw [hxl] at a1 d1
    obtain ⟨ps, hps⟩ : ∃ ps, ps = (List.range ws.length).map fun j : Nat => V.int (s.many + (j : Int)) := ⟨_, rfl⟩
    rw [← hps] at d1
    have hpl : ps.length = ws.length := by rw [hps, List.length_map, List.length_range]
    have hno : ¬ own c s D := ly.notOwn hD
    have g2 := g1.frz (ly.fh.free hD) d1 hD
    have a2 := a1.frz d1 (ly.fh.free hD) hno
    refine ⟨_, rfl, D, rfl, ⟨_, SqL.of d1⟩, for_list (K := K) (a := D) (xs := ps) (fun i σ H' => ∃ (x : Option V) (F' : Hp), σ = [some (.ref c.l), some (.ref t), some (.int p), some (.int q), some (.ref D), x, none, none] ∧
      Lstep K C c s F0 H { s with many := s.many + (ws.length : Nat), steps := s.steps ++ eithers s.hand p s.many i, bud := s.bud + i } F' H' ∧ F' D = some (.lst ps)) ⟨none, _, rfl, (Lstep.mk' g2 a2 rfl).to rfl rfl (List.append_nil _) rfl rfl rfl (Nat.le_refl _), upd_same⟩ (fun i σ H' _ ⟨_, F', _, z, d⟩ => SqL.of (z.2.2.fh _ _ d)) ?_ ?_⟩
    · rintro i v σ H3 hi ⟨x, F3, rfl, ls3, d3⟩
      have hil := (List.getElem?_eq_some_iff.mp hi).1
      have hv : v = .int (s.many + (i : Int)) := by
        rw [hps, List.getElem?_map, List.getElem?_range (by omega)] at hi
        cases hi
        rfl
      subst hv
      refine ⟨_, rfl, c.l, c.dx, lyF c _, rfl, ls3.2.2.at_, rfl, _, rfl, Nat.zero_le _, fun l hl0 => ?_⟩
      have ly4 := ls3.2.2.new (o := .lst []) hl0
      refine ⟨_, rfl, _, _, _, _, _, rfl, c, _, F3, p, s.many + (i : Int), TRk, l, [], [], rfl, ly4, rfl, rfl, h_TRUE _, ⟨[], TRk_ok⟩, rfl, upd_same, .nil, List.nodup_nil, Nat.zero_le _, by show s.bud + i + 1 ≤ 16000000; omega, fun F4 H4 ss' gr4 hss ly5 => ?_⟩
      cases List.perm_nil.mp hss
      refine ⟨_, F4, rfl, (ls3.trans (Lstep.mk' (((Gr.refl ls3.2.2.fh).new (o := .lst []) hl0).trans gr4) ly5 rfl)).to rfl rfl ?_ rfl rfl rfl (by show s.bud + i + 1 ≤ s.bud + (i + 1); omega), gr4.ff _ _ d3⟩
      show s.steps ++ eithers s.hand p s.many (i + 1) = s.steps ++ eithers s.hand p s.many i ++ [⟨s.hand, p, TRk, [], s.many + (i : Int)⟩]
      rw [eithers_succ, List.append_assoc]
    · rintro σ H3 ⟨x, F3, rfl, ls3, d3⟩
      rw [hpl] at ls3
      refine ⟨_, rfl, D, _, rfl, .inl (SqL.of (ls3.2.2.fh _ _ d3)), _, rfl, by rw [hpl]; omega, by rw [hpl]; omega, ?_⟩
      have hnat : ((ps.length : Nat) : Int).toNat = ws.length := by rw [hpl]; rfl
      rw [hnat]
      refine for_range (lo := 0) (n := ws.length) (fun i σ H' => ∃ (y : Option V) (F' : Hp) (st0 : List Stp) (ys : List ((Str × Int) × Addr × List Rk)) (as : List (Str × PyData)) (m1 : Int), σ = [some (.ref c.l), some (.ref t), some (.int p), some (.int q), some (.ref D), x, y, none] ∧
        Lstep K C c s F0 H { s with many := m1, steps := s.steps ++ eithers s.hand p s.many ws.length ++ st0, says := ys, asked := as, bud := s.bud + ws.length + i * (10 + 4 * wX n) } F' H' ∧ F' D = some (.lst ps) ∧
        ∀ st m', LayW s.hand (LayS s.hand num n) (ws.drop i) (s.many + (i : Nat)) q m1 st m' → LayW s.hand (LayS s.hand num n) ws s.many q (s.many + (ws.length : Nat)) (st0 ++ st) m') ?_ ?_ ?_
      · refine ⟨none, F3, [], s.says, s.asked, _, rfl, ls3.to rfl rfl (List.append_nil _) rfl rfl rfl (by show s.bud + ws.length ≤ s.bud + ws.length + 0 * (10 + 4 * wX n); omega), d3, fun st m' h => ?_⟩
        rw [List.drop_zero] at h
        have e : s.many + ((0 : Nat) : Int) = s.many := Int.add_zero _
        rw [e] at h
        exact h
      · rintro i σ H4 hi ⟨y, F4, st0, ys, as, m1, rfl, ls4, d4, hk⟩
        obtain ⟨a, ha⟩ : ∃ a, ws[i]? = some a := ⟨ws[i], List.getElem?_eq_getElem hi⟩
        obtain ⟨v, hv, hva⟩ := h4.get (i := i) (d := rd a) (by rw [List.getElem?_map, ha]; rfl)
        have ham := List.mem_of_getElem? ha
        obtain ⟨oa1, oa2⟩ := ok.2.2 a ham
        have hco := rows_cost (n := n) oa1
        have hpi : ps[i]? = some (.int (s.many + (i : Int))) := by
          rw [hps, List.getElem?_map, List.getElem?_range hi]
          rfl
        have hcost : i * (10 + 4 * wX n) + (10 + 4 * wX n) ≤ 5 * (10 + 4 * wX n) := by
          have e : (i + 1) * (10 + 4 * wX n) ≤ 5 * (10 + 4 * wX n) := Nat.mul_le_mul_right _ (by omega)
          rw [Nat.succ_mul] at e
          exact e
        have hsucc : (i + 1) * (10 + 4 * wX n) = i * (10 + 4 * wX n) + (10 + 4 * wX n) := Nat.succ_mul _ _
        have hdrop : ws.drop i = a :: ws.drop (i + 1) := by
          rw [List.drop_eq_getElem_cons hi]
          congr 1
          exact (List.getElem?_eq_some_iff.mp ha).2
        refine ⟨_, rfl, _, rfl, t, _, 1, _, rfl, rfl, ls4.2.2.fh.tup (ls4.1.ff.tup h2), at1, _, rfl, u, xs, _, v, rfl, rfl, ls4.2.2.fh.tup (ls4.1.ff.tup h3), by rw [Int.zero_add]; exact atI_nat hv, ?_⟩
        refine ⟨_, rfl, _, rfl, D, ps, _, _, rfl, rfl, SqL.of (ls4.2.2.fh _ _ d4), by rw [Int.zero_add]; exact atI_nat hpi, ?_⟩
        refine ⟨_, rfl, _, _, _, _, rfl, c, _, F4, a, E0, s.many + (i : Int), q, num, rfl, ls4.2.2, hva.mono ls4.1.ff, rfl, rfl, rowsL_of (by omega) (by omega) oa2, NewL.none (lbs_ok oa2), ⟨en.mine, en.locks, en.hands, en.all_, en.nd, en.at_⟩, by show s.bud + ws.length + i * (10 + 4 * wX n) + (10 + a.length * wX n) ≤ 16000000; omega, fun F5 H5 st2 ys2 as2 m2 lb2 ls5 hlay => ?_⟩
        have hlb := layR_lab (lbs_ok oa2) hlay
        subst hlb
        refine ⟨_, F5, st0 ++ st2, ys2, as2, m2, rfl, (ls4.trans ls5).to rfl rfl (List.append_assoc _ _ _).symm labH_nil.symm rfl rfl (by show s.bud + ws.length + i * (10 + 4 * wX n) + (10 + a.length * wX n) ≤ s.bud + ws.length + (i + 1) * (10 + 4 * wX n); omega), ls5.1.ff _ _ d4, fun st m' h => ?_⟩
        rw [List.append_assoc]
        refine hk _ m' ?_
        rw [hdrop]
        have e : s.many + ((i + 1 : Nat) : Int) = s.many + (i : Int) + 1 := by omega
        rw [e] at h
        exact ⟨st2, st, m2, rfl, hlay, h⟩
      · rintro σ H4 ⟨y, F4, st0, ys, as, m1, rfl, ls4, d4, hk⟩
        have hcost : ws.length * (10 + 4 * wX n) ≤ 5 * (10 + 4 * wX n) := Nat.mul_le_mul_right _ hwl
        refine post _ _ (eithers s.hand p s.many ws.length ++ st0) ys as m1 (ls4.to rfl rfl (List.append_assoc _ _ _).symm rfl rfl rfl (by show s.bud + ws.length + ws.length * (10 + 4 * wX n) ≤ s.bud + wX (n + 1); omega)) ?_
        have z := hk [] m1 (by rw [List.drop_length]; exact ⟨rfl, rfl⟩)
        rw [List.append_nil] at z
        exact ⟨st0, rfl, z⟩
theorem rep_succ {α : Type} (i : Nat) (a : List α) : (List.replicate (i + 1) a).flatten = (List.replicate i a).flatten ++ a := by
  rw [List.replicate_succ', List.flatten_append]
  simp
theorem lstatement_step {n k : Nat} (F : FunAt K mg "lay_statement" s_lay_statement) (G : Glb K mg) (L : LCls K C) (c_lay_plain : Cal P w K mg base "lay_plain" 5 ["laying", "row", "start", "to"] (spPlain K C))
    (c_lay_if : Cal P w K mg base "lay_if" (k + 7) ["laying", "row", "start", "to"] (spKind K C (n + 1) fun r => ∃ r0 a b, r = .iff r0 a b)) (c_lay_while : Cal P w K mg base "lay_while" (k + 7) ["laying", "row", "start", "to"] (spKind K C (n + 1) fun r => ∃ r0 a, r = .whl r0 a))
    (c_lay_either : Cal P w K mg base "lay_either" (k + 7) ["laying", "row", "start", "to"] (spKind K C (n + 1) fun r => ∃ ws, r = .either ws)) (c_lay_rows : Cal P w K mg base "lay_rows" (k + 6) ["laying", "rows", "start", "to"] (spRowsL K C n)) :
    Cal P w K mg base "lay_statement" (k + 8) ["laying", "row", "start", "to"] (spStmL K C (n + 1)) := by
  refine F.cal sc_lay_statement Sp4.len (fun _ _ _ _ _ _ us hl => match us, hl with | [_, _, _, _], _ => rfl) fun f cdv A outer s H vs Q E hr h => ?_
  have nd := sc_lay_statement.nd
  have hu := hu_of hr
  obtain ⟨a_PLAIN, m_PLAIN, h_PLAIN⟩ := G.PLAIN
  have m_range := G.range
  refine ⟨_, (pss_one (ps_if (pt_cmpR op_in_seq (pe_ix ix_tup (pv 1) pe_int (fun _ _ => rfl)) (pe_glob (v := .ref a_PLAIN) rfl m_PLAIN rfl) (by rfl)) (pss_one (ps_expr (pe_cal c_lay_plain hr rfl (pa_cons (pv 0) (pa_cons (pv 1) (pa_cons (pv 2) (pa_cons (pv 3) pa_nil))))))) (pss_one (ps_if (pt_cmpR op_eq (pe_ix ix_tup (pv 1) pe_int (fun _ _ => rfl)) pe_str (nomark _)) (pss_one (ps_expr (pe_cal c_lay_if hr rfl (pa_cons (pv 0) (pa_cons (pv 1) (pa_cons (pv 2) (pa_cons (pv 3) pa_nil))))))) (pss_one (ps_if (pt_cmpR op_eq (pe_ix ix_tup (pv 1) pe_int (fun _ _ => rfl)) pe_str (nomark _)) (pss_one (ps_expr (pe_cal c_lay_while hr rfl (pa_cons (pv 0) (pa_cons (pv 1) (pa_cons (pv 2) (pa_cons (pv 3) pa_nil))))))) (pss_one (ps_if (pt_cmpR op_eq (pe_ix ix_tup (pv 1) pe_int (fun _ _ => rfl)) pe_str (nomark _)) (pss_cons (ps_set (i := 4) nd rfl (Or.inl rfl) (pe_lst pa_nil))
            (pss_cons (ps_for PassesOwn.never rfl (pi_range1 rfl m_range (pa_cons (pe_ix ix_tup (pv 1) pe_int (fun _ _ => rfl)) pa_nil)) (pg_name (i := 5) nd rfl (Or.inl rfl))
              (pss_one (ps_set (i := 4) nd rfl (Or.inl rfl) (pe_op op_cat (pv 4) (pe_ix ix_tup (pv 1) pe_int (fun _ _ => rfl))))))
            (pss_one (ps_expr (pe_cal c_lay_rows hr rfl (pa_cons (pv 0) (pa_cons (pv 4) (pa_cons (pv 2) (pa_cons (pv 3) pa_nil))))))))) (pss_one (ps_expr (pe_cal c_lay_either hr rfl (pa_cons (pv 0) (pa_cons (pv 1) (pa_cons (pv 2) (pa_cons (pv 3) pa_nil))))))))))))))), ?_⟩
  obtain ⟨laying, row, start, to, rfl, c, s, F0, r, E0, p, q, num, rfl, ly, h1, rfl, rfl, hmk, ok, hn, en, hb, post⟩ := h
  have hwx : wX (n + 1) = 410 + 20 * wX n := rfl
  obtain ⟨t, us, rfl, hw⟩ := Row.at_word h1
  have hw2 := ly.fh.tup hw
  by_cases hp : r.plain = true
  · refine ⟨_, rfl, t, _, 0, _, rfl, rfl, hw2, at0, a_PLAIN, _, rfl, .inr (h_PLAIN _), rfl, by decide +kernel, _, rfl, ?_⟩
    refine ite_b ?_ ?_
    · show (if false = true then !inV (.str r.word) _ else inV (.str r.word) _) = true
      rw [if_neg (by decide), plain_in]
      exact hp
    · refine ⟨_, rfl, _, rfl, _, rfl, _, rfl, _, _, _, _, rfl, c, s, F0, r, E0, n, p, q, num, rfl, ly, h1, rfl, rfl, hp, ok, en, by omega, fun F1 H1 st as ls1 hlay => ?_⟩
      exact post _ _ st s.says as s.many (ls1.to rfl rfl rfl rfl rfl rfl (by show s.bud + 110 ≤ s.bud + wX (n + 1); omega)) hlay
  · have hpf : r.plain = false := by
      cases e : r.plain with
      | true => exact absurd e hp
      | false => rfl
    refine ⟨_, rfl, t, _, 0, _, rfl, rfl, hw2, at0, a_PLAIN, _, rfl, .inr (h_PLAIN _), rfl, by decide +kernel, _, rfl, ?_⟩
    refine ite_nb ?_ ?_
    · show (if false = true then !inV (.str r.word) _ else inV (.str r.word) _) = false
      rw [if_neg (by decide), plain_in]
      exact hpf
    cases r with
    | iff r0 a b =>
      refine ⟨_, rfl, t, _, 0, _, rfl, rfl, hw2, at0, rfl, _, rfl, ite_eq ?_⟩
      exact ⟨_, rfl, _, rfl, _, rfl, _, rfl, _, _, _, _, rfl, c, s, F0, _, E0, p, q, num, rfl, ly, h1, rfl, rfl, ⟨r0, a, b, rfl⟩, ok, hn, en, hb, post⟩
    | whl r0 a =>
      refine ⟨_, rfl, t, _, 0, _, rfl, rfl, hw2, at0, rfl, _, rfl, ite_ne (by decide +kernel : ¬ ("while" : Str) = "if") ?_⟩
      refine ⟨_, rfl, t, _, 0, _, rfl, rfl, hw2, at0, rfl, _, rfl, ite_eq ?_⟩
      exact ⟨_, rfl, _, rfl, _, rfl, _, rfl, _, _, _, _, rfl, c, s, F0, _, E0, p, q, num, rfl, ly, h1, rfl, rfl, ⟨r0, a, rfl⟩, ok, hn, en, hb, post⟩
    | either ws =>
      refine ⟨_, rfl, t, _, 0, _, rfl, rfl, hw2, at0, rfl, _, rfl, ite_ne (by decide +kernel : ¬ ("either" : Str) = "if") ?_⟩
      refine ⟨_, rfl, t, _, 0, _, rfl, rfl, hw2, at0, rfl, _, rfl, ite_ne (by decide +kernel : ¬ ("either" : Str) = "while") ?_⟩
      refine ⟨_, rfl, t, _, 0, _, rfl, rfl, hw2, at0, rfl, _, rfl, ite_ne (by decide +kernel : ¬ ("either" : Str) = "rounds") ?_⟩
      exact ⟨_, rfl, _, rfl, _, rfl, _, rfl, _, _, _, _, rfl, c, s, F0, _, E0, p, q, num, rfl, ly, h1, rfl, rfl, ⟨ws, rfl⟩, ok, hn, en, hb, post⟩
    | rounds m a =>
      refine ⟨_, rfl, t, _, 0, _, rfl, rfl, hw2, at0, rfl, _, rfl, ite_ne (by decide +kernel : ¬ ("rounds" : Str) = "if") ?_⟩
      refine ⟨_, rfl, t, _, 0, _, rfl, rfl, hw2, at0, rfl, _, rfl, ite_ne (by decide +kernel : ¬ ("rounds" : Str) = "while") ?_⟩
      refine ⟨_, rfl, t, _, 0, _, rfl, rfl, hw2, at0, rfl, _, rfl, ite_eq ?_⟩
      obtain ⟨t', y, et, h2, h4⟩ := Row.at_rounds h1
      cases et
      have hm0 := ok.1
      have hm3 := ok.2.1
      have ha4 := ok.2.2.1
      obtain ⟨b, vs, rfl, hvb, hva⟩ := h4.lst_inv
      have hvl : vs.length = a.length := hva.lenM
      refine ⟨Nat.zero_le _, fun l hl0 => ?_⟩
      refine ⟨_, rfl, t, _, 1, _, rfl, rfl, (Same.new hl0).tup (ly.fh.tup h2), at1, m, rfl, by omega, by omega, ?_⟩
      refine for_range (lo := 0) (n := m.toNat) (fun i σ H' => ∃ (x : Option V) (l' : Addr) (acc : List V), σ = [some (.ref c.l), some (.ref t), some (.int p), some (.int q), some (.ref l'), x] ∧ Same H H' ∧ H l' = none ∧ H' l' = some (.lst acc) ∧ Das K F0 acc (((List.replicate i a).flatten).map Row.d)) ⟨none, l, [], rfl, Same.new hl0, hl0, upd_same, .nil⟩ ?_ ?_
      · rintro i σ H2 hi ⟨x, l', acc, rfl, e2, hl', hacc, hd⟩
        have hal : acc.length ≤ 12 := by
          rw [hd.lenM]
          have e : ((List.replicate i a).flatten).length = i * a.length := by simp
          rw [e]
          have : i * a.length ≤ 3 * 4 := Nat.mul_le_mul (by omega) ha4
          omega
        refine ⟨_, rfl, _, rfl, t, _, 2, _, rfl, rfl, e2.tup (ly.fh.tup h2), rfl, l', b, acc, vs, rfl, rfl, hacc, e2 _ _ (ly.fh _ _ hvb), by rw [sizeLine_eq]; omega, fun l2 hl2 => ?_⟩
        refine ⟨_, l2, acc ++ vs, rfl, e2.trans (Same.new hl2), e2.free hl2, upd_same, ?_⟩
        rw [rep_succ, List.map_append]
        exact hd.app hva
      · rintro σ H2 ⟨x, l', acc, rfl, e2, hl', hacc, hd⟩
        have hlen : ((List.replicate m.toNat a).flatten).length ≤ 12 := by
          have e : ((List.replicate m.toNat a).flatten).length = m.toNat * a.length := by simp
          rw [e]
          have : m.toNat * a.length ≤ 3 * 4 := Nat.mul_le_mul (by omega) ha4
          omega
        have hall : ∀ x ∈ (List.replicate m.toNat a).flatten, x.Ok E0 n := fun x hx => by
          obtain ⟨l1, hl1, hx1⟩ := List.mem_flatten.mp hx
          rw [(List.mem_replicate.mp hl1).2] at hx1
          exact ok.2.2.2 x hx1
        have hco : 10 + ((List.replicate m.toNat a).flatten).length * wX n ≤ 10 + 12 * wX n := Nat.add_le_add_left (Nat.mul_le_mul_right _ hlen) _
        have hFl : F0 l' = none := ly.fh.free hl'
        have ly2 := (ly.same e2).frz hacc hFl (ly.notOwn hl')
        have g2 := ((Gr.refl (O := own c s) ly.fh).same e2).frz hFl hacc hl'
        refine ⟨_, rfl, _, rfl, _, rfl, _, rfl, _, _, _, _, rfl, c, s, _, (List.replicate m.toNat a).flatten, E0, p, q, num, rfl, ly2, .lst upd_same (hd.mono (Same.new hFl)), rfl, rfl, rowsL_of hlen (by omega) hall, NewL.none (lbs_ok hall), en, by omega, fun F3 H3 st ys as m' lb ls3 hlay => ?_⟩
        have hlb := layR_lab (lbs_ok hall) hlay
        subst hlb
        exact post _ _ st ys as m' (((Lstep.mk' g2 ly2 rfl).trans ls3).to rfl rfl rfl labH_nil.symm rfl rfl (by show s.bud + (10 + ((List.replicate m.toNat a).flatten).length * wX n) ≤ s.bud + wX (n + 1); omega)) hlay
    | label _ => cases hmk
    | say _ => cases hmk
    | skip => exact ok.elim
    | _ => cases hpf
/-- laying: at every depth -/
theorem ok_lstm (Fr : FunAt K mg "lay_rows" s_lay_rows) (Fs : FunAt K mg "lay_statement" s_lay_statement) (Fi : FunAt K mg "lay_if" s_lay_if) (Fw : FunAt K mg "lay_while" s_lay_while) (Fe : FunAt K mg "lay_either" s_lay_either) (G : Glb K mg) (L : LCls K C)
    (c_statements : Cal P w K mg base "statements" 1 ["rows"] (spStm K)) (c_lay_mark : Cal P w K mg base "lay_mark" 5 ["laying", "row", "place"] (spMark K C)) (c_lay_plain : Cal P w K mg base "lay_plain" 5 ["laying", "row", "start", "to"] (spPlain K C))
    (c_want_remark : Cal P w K mg base "want_remark" 4 ["laying", "remark", "any_box"] (spWantR K C)) (c_new_place : Met P w K mg base C "new_place" 1 ["self"] (spNewp K C)) (c_add_step : Met P w K mg base C "add_step" 1 ["self", "start", "guard", "sets", "to"] (spAdd K C)) :
    ∀ n, Cal P w K mg base "lay_statement" (3 * n + 5) ["laying", "row", "start", "to"] (spStmL K C n) ∧ Cal P w K mg base "lay_rows" (3 * n + 6) ["laying", "rows", "start", "to"] (spRowsL K C n)
  | 0 => by
    have a : Cal P w K mg base "lay_statement" (3 * 0 + 5) ["laying", "row", "start", "to"] (spStmL K C 0) := Fs.none (fun _ _ _ _ _ _ us hl => match us, hl with | [_, _, _, _], _ => rfl) fun vs H Q E ⟨_, _, _, _, _, _, _, _, _, _, _, _, _, _, _, _, _, _, _, z, _⟩ => z
    exact ⟨a, ok_lrows (k := 0) Fr G L c_statements c_lay_mark c_new_place c_add_step a⟩
  | n + 1 => by
    obtain ⟨a0, b0⟩ := ok_lstm Fr Fs Fi Fw Fe G L c_statements c_lay_mark c_lay_plain c_want_remark c_new_place c_add_step n
    have i1 := ok_lif (k := 3 * n) Fi G L c_want_remark c_new_place c_add_step b0
    have w1 := ok_lwhile (k := 3 * n) Fw G L c_want_remark c_new_place c_add_step b0
    have e1 := ok_leither (k := 3 * n) Fe G L c_new_place c_add_step b0
    have a : Cal P w K mg base "lay_statement" (3 * n + 8) ["laying", "row", "start", "to"] (spStmL K C (n + 1)) := lstatement_step (k := 3 * n) Fs G L c_lay_plain i1 w1 e1 b0
    exact ⟨a, ok_lrows (k := 3 * n + 3) Fr G L c_statements c_lay_mark c_new_place c_add_step a⟩
end
end Ca
namespace Ca
open PySem L2
abbrev s_counted : Stmt := top 21
abbrev N_counted : List Str := ["tree", "places", "steps", "name", "owns", "rows", "inner"]
theorem sc_counted : FnScope N_counted ["tree"] (defScope s_counted) := ⟨rfl, rfl, rfl, by decide +kernel, rfl, by decide +kernel, by decide +kernel⟩
-- cells: []  slots: 0=tree 1=places 2=steps 3=name 4=owns 5=rows 6=inner
abbrev s_placed : Stmt := top 35
abbrev N_placed : List Str := ["remark", "laying", "one"]
theorem sc_placed : FnScope N_placed ["remark", "laying"] (defScope s_placed) := ⟨rfl, rfl, rfl, by decide +kernel, rfl, by decide +kernel, by decide +kernel⟩
-- cells: ['laying']  slots: 0=remark 1=laying 2=one
abbrev s_want_labels : Stmt := top 36
abbrev N_want_labels : List Str := ["laying", "at"]
theorem sc_want_labels : FnScope N_want_labels ["laying"] (defScope s_want_labels) := ⟨rfl, rfl, rfl, by decide +kernel, rfl, by decide +kernel, by decide +kernel⟩
-- cells: []  slots: 0=laying 1=at
abbrev s_said : Stmt := top 37
abbrev N_said : List Str := ["laying", "hand", "place", "some", "one"]
theorem sc_said : FnScope N_said ["laying", "hand", "place"] (defScope s_said) := ⟨rfl, rfl, rfl, by decide +kernel, rfl, by decide +kernel, by decide +kernel⟩
-- cells: ['laying']  slots: 0=laying 1=hand 2=place 3=some 4=one
section
variable {P : Program} {w : World} {K : PySem.W.Frag} {mg : Str → Option Value} {base : Heap} {C : Addr}
abbrev Non : Addr → Prop := fun _ => False
theorem LyAt.gr {O : Addr → Prop} {c : Lc} {s : Ls} {F H F' H' : Hp} (a : LyAt K C c s F H) (g : Gr O F H F' H') (h : ∀ b, own c s b → ¬ O b) : LyAt K C c s F' H' :=
  a.keep g.ff g.fh fun b o e w => ⟨g.kp b o e (h b w), g.non e (a.ownAt w).1⟩
/-- a comprehension whose items are data -/
def LcD (K : PySem.W.Frag) (F H1 : Hp) (ds : List PyData) (D : Addr) (i : Nat) (H' : Hp) : Prop := H1 D = none ∧ ∃ F' acc, Gr Non F H1 F' H' ∧ F' D = none ∧ H' D = some (.lst acc) ∧ Das K F' acc (ds.take i)
theorem LcD.start {F H1 : Hp} {ds : List PyData} {D : Addr} (h : Same F H1) (hD : H1 D = none) : LcD K F H1 ds D 0 (upd H1 D (.lst [])) :=
  ⟨hD, F, [], (Gr.refl h).new hD, h.free hD, upd_same, .nil⟩
theorem LcD.put {F H1 F' H' F2 H2 : Hp} {ds : List PyData} {D : Addr} {i : Nat} {d : PyData} {y : V} {acc : List V} (hD : H1 D = none) (g : Gr Non F H1 F' H') (n : F' D = none) (e : H' D = some (.lst acc)) (hd : Das K F' acc (ds.take i)) (g2 : Gr Non F' H' F2 H2) (hy : Da K F2 y d) (hi : ds[i]? = some d) (hs : ds.length ≤ 16000000) :
    ∃ acc, H2 D = some (.lst acc) ∧ acc.length < sizeLine ∧ LcD K F H1 ds D (i + 1) (upd H2 D (.lst (acc ++ [y]))) := by
  have e2 := g2.kp _ _ e (fun z => z)
  have n2 := g2.non e n
  refine ⟨acc, e2, ?_, hD, F2, acc ++ [y], (g.trans g2).set n2 e2 (.inr hD), n2, upd_same, ?_⟩
  · have := hd.length
    rw [List.length_take] at this
    rw [sizeLine_eq]
    omega
  · rw [List.take_succ, hi]
    exact (hd.mono g2.ff).app (.cons hy .nil)
theorem LcD.end_ {F H1 H' : Hp} {ds : List PyData} {D : Addr} (h : LcD K F H1 ds D ds.length H') : ∃ F' acc, Gr Non F H1 F' H' ∧ H' D = some (.lst acc) ∧ F' D = some (.lst acc) ∧ Das K F' acc ds ∧ H1 D = none := by
  obtain ⟨hD, F', acc, g, n, e, hd⟩ := h
  rw [List.take_length] at hd
  exact ⟨upd F' D (.lst acc), acc, g.frz n e hD, e, upd_same, hd.mono (Same.new n), hD⟩
theorem Hnd.at_ {F : Hp} {v : V} {h : Hnd} (k : Da K F v h.d) : ∃ t o r, v = .ref t ∧ SqT K F t [.str h.name, o, r] ∧ Da K F o (.list (h.owns.map Bx.d)) ∧ Da K F r (rd h.rows) := by
  obtain ⟨a, x, y, z, rfl, h1, h2, h3, h4⟩ := k.tup3
  cases h2.str_inv
  exact ⟨a, y, z, rfl, h1, h3, h4⟩
theorem Tree.at_ {F : Hp} {v : V} {T : Tree} (k : Da K F v T.d) : ∃ t b l h bs ls hs, v = .ref t ∧ SqT K F t [.ref b, .ref l, .ref h] ∧ F b = some (.lst bs) ∧ Das K F bs (T.boxes.map Bx.d) ∧ F l = some (.lst ls) ∧ Das K F ls (T.locks.map PyData.str) ∧ F h = some (.lst hs) ∧ Das K F hs (T.hands.map Hnd.d) := by
  obtain ⟨a, x, y, z, rfl, h1, h2, h3, h4⟩ := k.tup3
  obtain ⟨b, bs, rfl, b1, b2⟩ := h2.lst_inv
  obtain ⟨l, ls, rfl, l1, l2⟩ := h3.lst_inv
  obtain ⟨h, hs, rfl, g1, g2⟩ := h4.lst_inv
  exact ⟨a, b, l, h, bs, ls, hs, rfl, h1, b1, b2, l1, l2, g1, g2⟩
theorem stm_lab {rs : List Row} : stm ([Row.label "lab"] ++ rs ++ [Row.label "fin"]) = stm rs := by
  unfold stm
  rw [List.filter_append, List.filter_append]
  show [] ++ _ ++ [] = _
  simp
theorem Tree.Ok.rowsOk {T : Tree} (o : T.Ok) {h : Hnd} (hm : h ∈ T.hands) : ∃ E, RowsOk E 3 h.rows := by
  obtain ⟨rs, E, e, hl, k, _⟩ := o.rows h hm
  refine ⟨E, by rw [e, List.length_append, List.length_append]; show 1 + rs.length + 1 ≤ 100000; omega, fun x hx => ?_⟩
  rw [e, stm_lab] at hx
  exact k x (mem_stm hx).1
def spCounted (K : PySem.W.Frag) : Sp := Sp1 fun tree H Q => ∃ T : Tree, Da K H tree T.d ∧ T.Ok ∧ ∀ p H', H p = none → Same H H' → H' p = some (pr ((T.hands.map fun h => 2 + (cntR h.rows).1).sum, (T.hands.map fun h => (cntR h.rows).2).sum)) → Q (.ref p) H'
theorem ok_counted (F : FunAt K mg "counted" s_counted) (G : Glb K mg) (c_rows_count : Cal P w K mg base "rows_count" 11 ["rows", "unlike"] (spRows K 3)) : Cal P w K mg base "counted" 12 ["tree"] (spCounted K) := by
  refine F.cal sc_counted Sp1.len (fun _ _ _ _ _ _ us hl => match us, hl with | [_], _ => rfl) fun f cdv A outer s H vs Q E hr h => ?_
  have nd := sc_counted.nd
  have hu := hu_of hr
  refine ⟨_, (pss_cons (ps_set (i := 1) nd rfl (Or.inl rfl) pe_int)
    (pss_cons (ps_set (i := 2) nd rfl (Or.inl rfl) pe_int)
    (pss_cons (ps_for PassesOwn.never rfl (pi_list (pe_ix ix_tup (pv 0) pe_int (fun _ _ => rfl))) (pg_tup rfl (pgs_cons (pg_name (i := 3) nd rfl (Or.inl rfl)) (pgs_cons (pg_name (i := 4) nd rfl (Or.inl rfl)) (pgs_cons (pg_name (i := 5) nd rfl (Or.inl rfl)) pgs_nil))))
      (pss_cons (ps_set (i := 6) nd rfl (Or.inl rfl) (pe_cal c_rows_count hr rfl (pa_cons (pv 5) (pa_cons pe_bl pa_nil))))
      (pss_cons (ps_set (i := 1) nd rfl (Or.inl rfl) (pe_op op_add (pe_op op_add (pv 1) pe_int) (pe_ix ix_tup (pv 6) pe_int (fun _ _ => rfl))))
      (pss_one (ps_set (i := 2) nd rfl (Or.inl rfl) (pe_op op_add (pv 2) (pe_ix ix_tup (pv 6) pe_int (fun _ _ => rfl))))))))
    (pss_one (ps_ret (pe_tup (pa_cons (pv 1) (pa_cons (pv 2) pa_nil)))))))), ?_⟩
  obtain ⟨tree, rfl, T, h1, ok, q⟩ := h
  obtain ⟨t, b, l, h, bs, ls, hs, rfl, h2, b1, b2, l1, l2, g1, g2⟩ := Tree.at_ h1
  refine ⟨_, rfl, t, _, 2, _, rfl, rfl, h2, rfl, h, rfl, ⟨_, SqL.of g1⟩, for_list (K := K) (a := h) (xs := hs) (fun i σ H' => ∃ (x y z u : Option V), σ = [some (.ref t), some (.int ((T.hands.take i).map fun h => 2 + (cntR h.rows).1).sum), some (.int ((T.hands.take i).map fun h => (cntR h.rows).2).sum), x, y, z, u] ∧ Same H H')
    ⟨none, none, none, none, rfl, Same.refl _⟩ (fun i σ H' _ ⟨_, _, _, _, _, e⟩ => SqL.of (e _ _ g1)) ?_ ?_⟩
  · rintro i v σ H' hi ⟨x, y, z, u, rfl, e1⟩
    obtain ⟨hd, hh, hv⟩ := g2.getM hi
    have hm := List.mem_of_getElem? hh
    obtain ⟨E0, ro⟩ := ok.rowsOk hm
    obtain ⟨t1, o, r, rfl, k1, k2, k3⟩ := Hnd.at_ hv
    refine ⟨t1, _, rfl, e1.tup k1, rfl, _, _, rfl, _, _, rfl, _, _, rfl, rfl, ?_⟩
    refine ⟨_, rfl, _, _, rfl, hd.rows, E0, k3.mono e1, rfl, ro, by omega, fun p H2 hp e2 hp2 => ?_⟩
    refine ⟨_, rfl, _, _, rfl, rfl, _, rfl, p, _, 0, _, rfl, rfl, SqT.of hp2, at0, _, _, rfl, rfl, ?_⟩
    refine ⟨_, rfl, _, rfl, p, _, 1, _, rfl, rfl, SqT.of hp2, at1, _, _, rfl, rfl, ?_⟩
    have s1 : ((T.hands.take (i + 1)).map fun h => 2 + (cntR h.rows).1).sum = ((T.hands.take i).map fun h => 2 + (cntR h.rows).1).sum + 2 + (cntR hd.rows).1 := by
      rw [List.take_succ, hh, List.map_append, List.sum_append]
      simp [Int.add_assoc]
    have s2 : ((T.hands.take (i + 1)).map fun h => (cntR h.rows).2).sum = ((T.hands.take i).map fun h => (cntR h.rows).2).sum + (cntR hd.rows).2 := by
      rw [List.take_succ, hh, List.map_append, List.sum_append]
      simp
    rw [s1, s2]
    exact ⟨some (.str hd.name), some o, some r, some (.ref p), rfl, e1.trans e2⟩
  · rintro σ H' ⟨x, y, z, u, rfl, e1⟩
    rw [g2.lenM, List.take_length]
    exact ⟨_, rfl, _, rfl, (by show 2 ≤ sizeLine; decide), fun p hp => q p _ (e1.free hp) (e1.trans (Same.new hp)) upd_same⟩
/-! ### labels to places -/
def LabsOk (c : Lc) (s : Ls) : Prop := ∀ h ∈ c.hands, ∀ l : Str, (l = "lab" ∨ l = "fin") → ∃ i, lkp s.labels (h, l) = some i
theorem lab0_of {lb : List ((Str × Str) × Int)} {h l : Str} {i : Int} (e : lkp lb (h, l) = some i) : lab0 lb h l = i := by
  unfold lkp at e
  unfold lab0
  rw [e]
  rfl
def spPlaced (K : PySem.W.Frag) (C : Addr) (n : Nat) : Sp := Sp2 fun remark laying H Q => ∃ (c : Lc) (s : Ls) (F : Hp) (r : Rk) (N : List Str), laying = .ref c.l ∧ LyAt K C c s F H ∧ Da K F remark r.d ∧ r.Ok N c.hands n ∧ LabsOk c s ∧
  ∀ F' v H', Gr Non F H F' H' → Da K F' v (r.plc (lab0 s.labels)).d → Q v H'
theorem placed_step {n : Nat} (F : FunAt K mg "placed" s_placed) (G : Glb K mg) (L : LCls K C) (c_placed : Cal P w K mg base "placed" (n + 1) ["remark", "laying"] (spPlaced K C n)) :
    Cal P w K mg base "placed" (n + 2) ["remark", "laying"] (spPlaced K C (n + 1)) := by
  refine F.cal sc_placed Sp2.len (fun _ _ _ _ _ _ us hl => match us, hl with | [_, _], _ => rfl) fun f cdv A outer s H vs Q E hr h => ?_
  have nd := sc_placed.nd
  have hu := hu_of hr
  have m_tuple := G.tuple
  refine ⟨_, (pss_cons (ps_if (pt_cmpR op_eq (pe_ix ix_tup (pv 0) pe_int (fun _ _ => rfl)) pe_str (nomark _)) (pss_one (ps_ret (pe_tup (pa_cons pe_str (pa_cons (pe_ix ix_tup (pv 0) pe_int (fun _ _ => rfl)) (pa_cons (pe_dget hu (pe_fld (pv 1) rfl) (pe_tup (pa_cons (pe_ix ix_tup (pv 0) pe_int (fun _ _ => rfl)) (pa_cons (pe_ix ix_tup (pv 0) pe_int (fun _ _ => rfl)) pa_nil))) (fun _ _ => rfl)) pa_nil)))))) pss_nil)
    (pss_cons (ps_if (pt_cmpR op_eq (pe_ix ix_tup (pv 0) pe_int (fun _ _ => rfl)) pe_str (nomark _)) (pss_one (ps_ret (pe_tup (pa_cons pe_str (pa_cons (pe_cal c_placed hr rfl (pa_cons (pe_ix ix_tup (pv 0) pe_int (fun _ _ => rfl)) (pa_cons (pv 1) pa_nil))) pa_nil))))) pss_nil)
    (pss_cons (ps_if (PW.pt (pw_or (pt_cmpR op_eq (pe_ix ix_tup (pv 0) pe_int (fun _ _ => rfl)) pe_str (nomark _)) (pw_or1 (pt_cmpR op_eq (pe_ix ix_tup (pv 0) pe_int (fun _ _ => rfl)) pe_str (nomark _))))) (pss_one (ps_ret (pe_tup (pa_cons (pe_ix ix_tup (pv 0) pe_int (fun _ _ => rfl)) (pa_cons (pe_callTy call_tuple_of (by rfl) m_tuple (by decide +kernel) (pa_cons (pe_lc (own := [("one", 2)]) (g := (gName 2)) (tt := tYes) rfl nd (pi_tup (pe_ix ix_tup (pv 0) pe_int (fun _ _ => rfl))) (blkOk_by (own := [("one", 2)]) (N := N_placed) (sc := defScope s_placed) (by decide +kernel)) (fun _ _ _ _ _ => (pg_name (i := 2) nd rfl (Or.inl rfl))) (fun _ _ _ _ _ => pts_nil) (fun _ _ _ _ _ => (pe_cal c_placed hr rfl (pa_cons (pv 2) (pa_cons (pv 1) pa_nil))))) pa_nil)) pa_nil))))) pss_nil)
    (pss_one (ps_ret (pv 0)))))), ?_⟩
  obtain ⟨rem, laying, rfl, c, s, F0, r, N, rfl, ly, h1, ok, hlab, q⟩ := h
  have n1 := L.na "labels" (by decide +kernel)
  have g0 : Gr Non F0 H F0 H := Gr.refl ly.fh
  cases r with
  | «at» h p0 =>
    obtain ⟨a, x, rfl, h2, h3⟩ := Rk.at_at h1
    have h2' := ly.fh.tup h2
    obtain ⟨l, rfl, hl⟩ : ∃ l, p0 = .str l ∧ (l = "lab" ∨ l = "fin") := by
      rcases ok.2.2 with e | e
      · exact ⟨_, e, .inl rfl⟩
      · exact ⟨_, e, .inr rfl⟩
    cases h3.str_inv
    obtain ⟨i, hi⟩ := hlab h ok.1 l hl
    refine ⟨_, rfl, a, _, 0, _, rfl, rfl, h2', at0, rfl, _, rfl, ite_eq ?_⟩
    refine ⟨_, rfl, a, _, 1, _, rfl, rfl, h2', at1, _, rfl, _, _, _, _, _, rfl, ly.at_, L.cls, n1, lk_labels c s, _, rfl, a, _, 1, _, rfl, rfl, h2', at1, _, rfl, a, _, 2, _, rfl, rfl, h2', rfl, (by show 2 ≤ sizeLine; decide), fun k hk => ?_⟩
    have ly1 := ly.new (o := .tup [.str h, .str l]) hk
    refine ⟨c.ld, .int i, rfl, ?_, (by show 3 ≤ sizeLine; decide), fun t ht => ?_⟩
    · have z := DGet.t (k := [.inr h, .inr l]) ly1.ld (upd_same (H := H) (a := k) (o := .tup [.str h, .str l]))
      rw [labK_get, hi] at z
      exact z
    · refine q _ _ _ ((g0.new (o := .tup [.str h, .str l]) hk).newF ht) ?_
      show Da K _ (.ref t) (.tuple [.str "at", .str h, .int (lab0 s.labels h l)])
      rw [lab0_of hi]
      exact .tup (SqT.of upd_same) (.cons (.str _) (.cons (.str _) (.cons (.int _) .nil)))
  | not r =>
    obtain ⟨a, x, rfl, h2, h3⟩ := Rk.at_not h1
    have h2' := ly.fh.tup h2
    refine ⟨_, rfl, a, _, 0, _, rfl, rfl, h2', at0, rfl, _, rfl, ite_ne (by decide +kernel) ?_⟩
    refine ⟨_, rfl, a, _, 0, _, rfl, rfl, h2', at0, rfl, _, rfl, ite_eq ?_⟩
    refine ⟨_, rfl, a, _, 1, _, rfl, rfl, h2', at1, _, rfl, _, _, rfl, c, s, F0, r, N, rfl, ly, h3, ok, hlab, fun F1 v H1 g1 d1 => ?_⟩
    refine ⟨(by show 2 ≤ sizeLine; decide), fun t ht => q _ _ _ (g1.newF ht) ?_⟩
    exact .tup (SqT.of upd_same) (.cons (.str _) (.cons (d1.mono (Same.new (g1.fh.free ht))) .nil))
  | and rs =>
    obtain ⟨a, b, xs, rfl, h2, h3, h4⟩ := Rk.at_and h1
    have h2' := ly.fh.tup h2
    refine ⟨_, rfl, a, _, 0, _, rfl, rfl, h2', at0, rfl, _, rfl, ite_ne (by decide +kernel) ?_⟩
    refine ⟨_, rfl, a, _, 0, _, rfl, rfl, h2', at0, rfl, _, rfl, ite_ne (by decide +kernel) ?_⟩
    refine ⟨_, rfl, a, _, 0, _, rfl, rfl, h2', at0, rfl, _, rfl, ite_eq ?_⟩
    refine ⟨_, rfl, a, _, 0, _, rfl, rfl, h2', at0, _, rfl, a, _, 1, _, rfl, rfl, h2', at1, b, rfl, ⟨_, ly.fh.tup h3⟩, fun D hD => lc_tup (K := K) (a := b) (xs := xs) (LcD K F0 H (rs.map fun r => (r.plc (lab0 s.labels)).d) D) (LcD.start ly.fh hD)
      (fun i H' _ z => by
        obtain ⟨_, F', acc, g, _⟩ := z
        exact g.fh.tup (g.ff.tup h3)) ?_ ?_⟩
    · rintro i v H' hi ⟨hD', F', acc, g, n', e, hd⟩
      obtain ⟨r, hr', hv⟩ := h4.getM hi
      refine ⟨rfl, _, rfl, _, rfl, _, _, rfl, c, s, F', r, N, rfl, ly.gr g (fun _ _ z => z), hv.mono g.ff, ok.2 r (List.mem_of_getElem? hr'), hlab, fun F2 y H2 g2 d2 => ?_⟩
      exact LcD.put hD' g n' e hd g2 d2 (by rw [List.getElem?_map, hr']; rfl) (by rw [List.length_map]; have := ok.1; omega)
    · intro H' z
      have e : xs.length = (rs.map fun r => (r.plc (lab0 s.labels)).d).length := by rw [h4.lenM, List.length_map]
      rw [e] at z
      obtain ⟨F', acc, g, e1, e2, hd, _⟩ := z.end_
      refine ⟨D, acc, rfl, .inl ⟨SqL.of e1, fun t ht => ?_⟩⟩
      have g2 := g.newF (o := .tup acc) ht
      refine ⟨(by show 2 ≤ sizeLine; decide), fun t2 ht2 => q _ _ _ (g2.newF ht2) ?_⟩
      show Da K _ (.ref t2) (.tuple [.str "and", .tuple (Rk.ds (Rk.plcs _ rs))])
      rw [Rk.ds_eq, Rk.plcs_eq, List.map_map]
      exact .tup (SqT.of upd_same) (.cons (.str _) (.cons (.tup ((Same.new (g2.fh.free ht2)).tup (SqT.of upd_same)) ((hd.mono (Same.new (g.fh.free ht))).mono (Same.new (g2.fh.free ht2)))) .nil))
  | or rs =>
    obtain ⟨a, b, xs, rfl, h2, h3, h4⟩ := Rk.at_or h1
    have h2' := ly.fh.tup h2
    refine ⟨_, rfl, a, _, 0, _, rfl, rfl, h2', at0, rfl, _, rfl, ite_ne (by decide +kernel) ?_⟩
    refine ⟨_, rfl, a, _, 0, _, rfl, rfl, h2', at0, rfl, _, rfl, ite_ne (by decide +kernel) ?_⟩
    refine ⟨_, rfl, a, _, 0, _, rfl, rfl, h2', at0, rfl, _, rfl, ite_ne (by decide +kernel) ?_⟩
    refine ⟨_, rfl, a, _, 0, _, rfl, rfl, h2', at0, rfl, _, rfl, ite_eq ?_⟩
    refine ⟨_, rfl, a, _, 0, _, rfl, rfl, h2', at0, _, rfl, a, _, 1, _, rfl, rfl, h2', at1, b, rfl, ⟨_, ly.fh.tup h3⟩, fun D hD => lc_tup (K := K) (a := b) (xs := xs) (LcD K F0 H (rs.map fun r => (r.plc (lab0 s.labels)).d) D) (LcD.start ly.fh hD)
      (fun i H' _ z => by
        obtain ⟨_, F', acc, g, _⟩ := z
        exact g.fh.tup (g.ff.tup h3)) ?_ ?_⟩
    · rintro i v H' hi ⟨hD', F', acc, g, n', e, hd⟩
      obtain ⟨r, hr', hv⟩ := h4.getM hi
      refine ⟨rfl, _, rfl, _, rfl, _, _, rfl, c, s, F', r, N, rfl, ly.gr g (fun _ _ z => z), hv.mono g.ff, ok.2 r (List.mem_of_getElem? hr'), hlab, fun F2 y H2 g2 d2 => ?_⟩
      exact LcD.put hD' g n' e hd g2 d2 (by rw [List.getElem?_map, hr']; rfl) (by rw [List.length_map]; have := ok.1; omega)
    · intro H' z
      have e : xs.length = (rs.map fun r => (r.plc (lab0 s.labels)).d).length := by rw [h4.lenM, List.length_map]
      rw [e] at z
      obtain ⟨F', acc, g, e1, e2, hd, _⟩ := z.end_
      refine ⟨D, acc, rfl, .inl ⟨SqL.of e1, fun t ht => ?_⟩⟩
      have g2 := g.newF (o := .tup acc) ht
      refine ⟨(by show 2 ≤ sizeLine; decide), fun t2 ht2 => q _ _ _ (g2.newF ht2) ?_⟩
      show Da K _ (.ref t2) (.tuple [.str "or", .tuple (Rk.ds (Rk.plcs _ rs))])
      rw [Rk.ds_eq, Rk.plcs_eq, List.map_map]
      exact .tup (SqT.of upd_same) (.cons (.str _) (.cons (.tup ((Same.new (g2.fh.free ht2)).tup (SqT.of upd_same)) ((hd.mono (Same.new (g.fh.free ht))).mono (Same.new (g2.fh.free ht2)))) .nil))
  | most sm =>
    obtain ⟨a, x, rfl, h2, h3⟩ := Rk.at_most h1
    have h2' := ly.fh.tup h2
    refine ⟨_, rfl, a, _, 0, _, rfl, rfl, h2', at0, rfl, _, rfl, ite_ne (by decide +kernel) ?_⟩
    refine ⟨_, rfl, a, _, 0, _, rfl, rfl, h2', at0, rfl, _, rfl, ite_ne (by decide +kernel) ?_⟩
    refine ⟨_, rfl, a, _, 0, _, rfl, rfl, h2', at0, rfl, _, rfl, ite_ne (by decide +kernel) ?_⟩
    refine ⟨_, rfl, a, _, 0, _, rfl, rfl, h2', at0, rfl, _, rfl, ite_ne (by decide +kernel) ?_⟩
    exact ⟨_, rfl, q _ _ _ g0 h1⟩
  | rest sm m =>
    obtain ⟨a, x, rfl, h2, h3⟩ := Rk.at_rest h1
    have h2' := ly.fh.tup h2
    refine ⟨_, rfl, a, _, 0, _, rfl, rfl, h2', at0, rfl, _, rfl, ite_ne (by decide +kernel) ?_⟩
    refine ⟨_, rfl, a, _, 0, _, rfl, rfl, h2', at0, rfl, _, rfl, ite_ne (by decide +kernel) ?_⟩
    refine ⟨_, rfl, a, _, 0, _, rfl, rfl, h2', at0, rfl, _, rfl, ite_ne (by decide +kernel) ?_⟩
    refine ⟨_, rfl, a, _, 0, _, rfl, rfl, h2', at0, rfl, _, rfl, ite_ne (by decide +kernel) ?_⟩
    exact ⟨_, rfl, q _ _ _ g0 h1⟩
theorem ok_placed (F : FunAt K mg "placed" s_placed) (G : Glb K mg) (L : LCls K C) : ∀ n, Cal P w K mg base "placed" (n + 1) ["remark", "laying"] (spPlaced K C n)
  | 0 => F.none (fun _ _ _ _ _ _ us hl => match us, hl with | [_, _], _ => rfl) fun vs H Q E ⟨_, _, _, _, _, _, _, _, _, _, _, z, _⟩ => z
  | n + 1 => placed_step F G L (ok_placed F G L n)
def spWantLabs (K : PySem.W.Frag) (C : Addr) : Sp := Sp1 fun laying H Q => ∃ (c : Lc) (s : Ls) (F : Hp), laying = .ref c.l ∧ LyAt K C c s F H ∧ LabsOk c s ∧ ∀ H', Same H H' → Q .non H'
theorem atd_at {F : Hp} {v : V} {p : Str × PyData} (h : Da K F v (atd p)) : ∃ t x, v = .ref t ∧ SqT K F t [.str "at", .str p.1, x] ∧ Da K F x p.2 := Rk.at_at (h := p.1) (p := p.2) h
theorem ok_wantLabs (F : FunAt K mg "want_labels" s_want_labels) (G : Glb K mg) (L : LCls K C) : Cal P w K mg base "want_labels" 1 ["laying"] (spWantLabs K C) := by
  refine F.cal sc_want_labels Sp1.len (fun _ _ _ _ _ _ us hl => match us, hl with | [_], _ => rfl) fun f cdv A outer s H vs Q E hr h => ?_
  have nd := sc_want_labels.nd
  have hu := hu_of hr
  refine ⟨_, (pss_one (ps_for PassesOwn.never rfl (pi_list (pe_fld (pv 0) rfl)) (pg_name (i := 1) nd rfl (Or.inl rfl))
      (pss_cons (ps_if (pt_cmpR op_notIn_seq (pe_ix ix_tup (pv 1) pe_int (fun _ _ => rfl)) (pe_fld (pv 0) rfl) (by rfl)) pss_never pss_nil)
      (pss_one (ps_if (pt_cmp (pc_dnotin hu (pe_tup (pa_cons (pe_ix ix_tup (pv 1) pe_int (fun _ _ => rfl)) (pa_cons (pe_ix ix_tup (pv 1) pe_int (fun _ _ => rfl)) pa_nil))) (pe_fld (pv 0) rfl))) pss_never pss_nil))))), ?_⟩
  obtain ⟨laying, rfl, c, s, F0, rfl, ly, hlab, q⟩ := h
  have n1 := L.na "asked" (by decide +kernel)
  have n2 := L.na "hands" (by decide +kernel)
  have n3 := L.na "labels" (by decide +kernel)
  obtain ⟨vs, g1, g2⟩ := ly.al
  refine ⟨_, rfl, _, _, _, _, _, rfl, ly.at_, L.cls, n1, lk_asked c s, c.al, rfl, ⟨_, SqL.of g1⟩, for_list (K := K) (a := c.al) (xs := vs) (fun i σ H' => ∃ x, σ = [some (.ref c.l), x] ∧ Same H H') ⟨none, rfl, Same.refl _⟩ (fun i σ H' _ ⟨_, _, e⟩ => SqL.of (e _ _ g1)) ?_ ?_⟩
  · rintro i v σ H' hi ⟨x, rfl, e1⟩
    obtain ⟨a, ha, hv⟩ := g2.getM hi
    obtain ⟨o1, o2⟩ := ly.ask a (List.mem_of_getElem? ha)
    obtain ⟨t, y, rfl, k1, k2⟩ := atd_at hv
    have ly1 := ly.same e1
    have k1' := ly1.fh.tup k1
    obtain ⟨l, el, hl⟩ : ∃ l, a.2 = .str l ∧ (l = "lab" ∨ l = "fin") := by
      rcases o2 with e | e
      · exact ⟨_, e, .inl rfl⟩
      · exact ⟨_, e, .inr rfl⟩
    rw [el] at k2
    cases k2.str_inv
    obtain ⟨j, hj⟩ := hlab a.1 o1 l hl
    refine ⟨_, rfl, t, _, 1, _, rfl, rfl, k1', at1, _, rfl, _, _, _, _, _, rfl, ly1.at_, L.cls, n2, lk_hands c s, _, _, rfl, .inl (SqL.of (ly1.fh _ _ ly1.hl)), rfl, flat_strs _, ?_⟩
    rw [in_strs, decide_eq_true o1]
    refine ⟨_, rfl, ?_⟩
    refine ⟨_, rfl, t, _, 1, _, rfl, rfl, k1', at1, _, rfl, t, _, 2, _, rfl, rfl, k1', rfl, (by show 2 ≤ sizeLine; decide), fun k hk => ?_⟩
    have ly2 := ly1.new (o := .tup [.str a.1, .str l]) hk
    refine ⟨_, rfl, _, _, _, _, _, rfl, ly2.at_, L.cls, n3, lk_labels c s, c.ld, some (.int j), rfl, ?_, ?_⟩
    · have z := DGet.t (k := [.inr a.1, .inr l]) ly2.ld (upd_same (H := H') (a := k) (o := .tup [.str a.1, .str l]))
      rw [labK_get, hj] at z
      exact z
    · exact ⟨_, rfl, _, rfl, e1.trans (Same.new hk)⟩
  · rintro σ H' ⟨x, rfl, e1⟩
    exact q _ e1
def spSaid (K : PySem.W.Frag) (C : Addr) : Sp := Sp3 fun laying hand place H Q => ∃ (c : Lc) (s : Ls) (F : Hp) (h : Str) (p : Int), laying = .ref c.l ∧ LyAt K C c s F H ∧ hand = .str h ∧ place = .int p ∧ LabsOk c s ∧ s.bud ≤ 16000000 ∧
  ∀ F' v H', Gr Non F H F' H' → Q v H'
theorem ok_said (F : FunAt K mg "said" s_said) (G : Glb K mg) (L : LCls K C) (c_placed : Cal P w K mg base "placed" 3 ["remark", "laying"] (spPlaced K C 2)) : Cal P w K mg base "said" 4 ["laying", "hand", "place"] (spSaid K C) := by
  refine F.cal sc_said Sp3.len (fun _ _ _ _ _ _ us hl => match us, hl with | [_, _, _], _ => rfl) fun f cdv A outer s H vs Q E hr h => ?_
  have nd := sc_said.nd
  have hu := hu_of hr
  have m_len := G.len
  have m_tuple := G.tuple
  refine ⟨_, (pss_cons (ps_setLc (i := 3) rfl nd rfl rfl (sw_true rfl rfl rfl (by decide +kernel)) (own := [("one", 4)]) (g := (gName 4)) (tt := tYes) (pi_list (pe_dget2 hu (pe_fld (pv 0) rfl) (pe_tup (pa_cons (pv 1) (pa_cons (pv 2) pa_nil))) (pe_lst pa_nil) ⟨rfl, rfl, rfl, rfl⟩)) (blkOk_by (own := [("one", 4)]) (N := N_said) (sc := defScope s_said) (by decide +kernel)) (fun _ _ _ _ _ => (pg_name (i := 4) nd rfl (Or.inl rfl))) (fun _ _ _ _ _ => pts_nil) (fun _ _ _ _ _ => (pe_cal c_placed hr rfl (pa_cons (pv 4) (pa_cons (pv 0) pa_nil)))))
    (pss_cons (ps_if (pt_cmpR op_eq (pe_callB call_len_seq (by rfl) m_len (by decide +kernel) (pa_cons (pv 3) pa_nil)) pe_int (nomark _)) (pss_one (ps_ret (pe_ix ix_list (pv 3) pe_int (fun _ _ => rfl)))) pss_nil)
    (pss_one (ps_ret (pe_tup (pa_cons pe_str (pa_cons (pe_callTy call_tuple_of (by rfl) m_tuple (by decide +kernel) (pa_cons (pv 3) pa_nil)) pa_nil))))))), ?_⟩
  obtain ⟨laying, hand, place, rfl, c, s, F0, h, p, rfl, ly, rfl, rfl, hlab, hb, q⟩ := h
  have n1 := L.na "says" (by decide +kernel)
  have g0 : Gr Non F0 H F0 H := Gr.refl ly.fh
  refine ⟨_, rfl, _, _, _, _, _, rfl, ly.at_, L.cls, n1, lk_says c s, _, rfl, .inr ⟨_, .inl ly.yd⟩, _, rfl, _, rfl, (by show 2 ≤ sizeLine; decide), fun k hk => ?_⟩
  have ly1 := ly.new (o := .tup [.str h, .int p]) hk
  have g1 := g0.new (o := .tup [.str h, .int p]) hk
  refine ⟨Nat.zero_le _, fun l hl => ?_⟩
  have ly2 := ly1.new (o := .lst []) hl
  have g2 := g1.new (o := .lst []) hl
  obtain ⟨H2, hH2⟩ : ∃ H2, H2 = upd (upd H k (.tup [.str h, .int p])) l (.lst []) := ⟨_, rfl⟩
  have hk2 : H2 k = some (.tup [.str h, .int p]) := by
    rw [hH2]
    exact Same.new hl _ _ upd_same
  have hl2 : H2 l = some (.lst []) := by
    rw [hH2]
    exact upd_same
  rw [← hH2] at ly2 g2 ⊢
  have key : ∃ (o : Option V) (b : Addr) (vs : List V) (rks : List Rk), DGet H2 c.yd (.ref k) o ∧ o.getD (.ref l) = .ref b ∧ H2 b = some (.lst vs) ∧ Das K F0 vs (rks.map Rk.d) ∧ rks.length ≤ s.bud ∧ ∀ r ∈ rks, ∃ N, r.Ok N c.hands 2 := by
    have z := DGet.t (k := [.inr h, .inl p]) ly2.yd hk2
    rw [sayK_get] at z
    cases e : lkp s.says (h, p) with
    | none =>
      rw [e] at z
      exact ⟨_, l, [], [], z, rfl, hl2, .nil, Nat.zero_le _, fun r hr => nomatch hr⟩
    | some pq =>
      rw [e] at z
      obtain ⟨y1, y2, ⟨vs, y3, y4⟩, y5⟩ := ly2.ys _ (lkp_mem e)
      exact ⟨_, pq.1, vs, pq.2, z, rfl, y3, y4, y2, y5⟩
  obtain ⟨o, b, vs, rks, hdg, hob, hbv, hvs, hlen, hok⟩ := key
  refine ⟨o, hdg, ?_⟩
  rw [hob]
  refine ⟨b, rfl, ⟨_, SqL.of hbv⟩, fun D hD => lc_list (K := K) (a := b) (xs := vs) (LcD K F0 H2 (rks.map fun r => (r.plc (lab0 s.labels)).d) D) (LcD.start ly2.fh hD)
      (fun i H' _ z => by
        obtain ⟨_, F', acc, g, _⟩ := z
        exact SqL.of (g.kp _ _ hbv fun z => z)) ?_ ?_⟩
  · rintro i v H' hi ⟨hD', F', acc, g, n', e, hd⟩
    obtain ⟨r, hr', hv⟩ := hvs.getM hi
    obtain ⟨N, okr⟩ := hok r (List.mem_of_getElem? hr')
    refine ⟨rfl, _, rfl, _, rfl, _, _, rfl, c, s, F', r, N, rfl, ly2.gr g (fun _ _ z => z), hv.mono g.ff, okr, hlab, fun F2 y H3 g3 d3 => ?_⟩
    exact LcD.put hD' g n' e hd g3 d3 (by rw [List.getElem?_map, hr']; rfl) (by rw [List.length_map]; omega)
  · intro H' z
    have e : vs.length = (rks.map fun r => (r.plc (lab0 s.labels)).d).length := by rw [hvs.lenM, List.length_map]
    rw [e] at z
    obtain ⟨F', acc, g, e1, e2, hd, _⟩ := z.end_
    refine ⟨_, rfl, D, acc, rfl, .inl (SqL.of e1), rfl, _, rfl, ?_⟩
    refine ite2 (fun c1 => ?_) (fun c1 => ?_)
    · have hl1 : acc.length = 1 := by
        have := of_decide_eq_true c1
        injection this with this
        omega
      obtain ⟨v, rfl⟩ := List.length_eq_one_iff.mp hl1
      exact ⟨_, rfl, D, _, 0, v, rfl, rfl, SqL.of e1, at0, q _ _ _ (g2.trans g)⟩
    · refine ⟨_, rfl, D, acc, rfl, .inl ⟨SqL.of e1, fun t ht => ⟨(by show 2 ≤ sizeLine; decide), fun t2 ht2 => q _ _ _ (((g2.trans g).newF (o := .tup acc) ht).newF ht2)⟩⟩⟩
end
end Ca
namespace Ca
open PySem L2
abbrev s_want_unlike : Stmt := top 33
abbrev N_want_unlike : List Str := ["tree", "names", "name", "owns", "rows", "met", "box"]
theorem sc_want_unlike : FnScope N_want_unlike ["tree"] (defScope s_want_unlike) := ⟨rfl, rfl, rfl, by decide +kernel, rfl, by decide +kernel, by decide +kernel⟩
-- cells: []  slots: 0=tree 1=names 2=name 3=owns 4=rows 5=met 6=box
abbrev s_all_boxes : Stmt := top 34
abbrev N_all_boxes : List Str := ["tree", "found", "name", "owns", "rows", "box"]
theorem sc_all_boxes : FnScope N_all_boxes ["tree"] (defScope s_all_boxes) := ⟨rfl, rfl, rfl, by decide +kernel, rfl, by decide +kernel, by decide +kernel⟩
-- cells: ['name', 'tree']  slots: 0=tree 1=found 2=name 3=owns 4=rows 5=box
section
variable {P : Program} {w : World} {K : PySem.W.Frag} {mg : Str → Option Value} {base : Heap} {C : Addr}
theorem Bx.at_ {F : Hp} {v : V} {b : Bx} (h : Da K F v b.d) : ∃ t, v = .ref t ∧ SqT K F t [.str b.name, .int b.low, .int b.high, .int b.start] := by
  obtain ⟨a, x, y, z, u, rfl, h1, h2, h3, h4, h5⟩ := h.tup4
  cases h2.str_inv
  cases h3.int_inv
  cases h4.int_inv
  cases h5.int_inv
  exact ⟨a, rfl, h1⟩
theorem nmL_take {hs : List Hnd} {i : Nat} {h : Hnd} (e : hs[i]? = some h) : nmL (hs.take (i + 1)) = nmL (hs.take i) ++ (h.name :: bn h.owns) := by
  unfold nmL
  rw [List.take_succ, e, List.map_append, List.flatten_append]
  simp
theorem len_flatN {α : Type} {β : Type} (f : α → List β) (m : Nat) (l : List α) (h : ∀ x ∈ l, (f x).length ≤ m) : (l.map f).flatten.length ≤ l.length * m := len_flat f m l h
theorem Tree.Ok.nml {T : Tree} (o : T.Ok) (i : Nat) : (nmL (T.hands.take i)).length ≤ 33 := by
  have z := len_flat (fun h : Hnd => h.name :: bn h.owns) 11 (T.hands.take i) fun x hx => by
    have := o.ol x (List.mem_of_mem_take hx)
    show (bn x.owns).length + 1 ≤ 11
    unfold bn
    rw [List.length_map]
    omega
  have y := o.hl
  have k : (T.hands.take i).length ≤ 3 := Nat.le_trans (List.length_take_le' _ _) y
  have u : (T.hands.take i).length * 11 ≤ 3 * 11 := Nat.mul_le_mul_right _ k
  unfold nmL
  omega
def spUnlike (K : PySem.W.Frag) : Sp := Sp1 fun tree H Q => ∃ T : Tree, Da K H tree T.d ∧ T.Ok ∧ ∀ H', Same H H' → Q .non H'
theorem ok_unlike (F : FunAt K mg "want_unlike" s_want_unlike) (G : Glb K mg) : Cal P w K mg base "want_unlike" 1 ["tree"] (spUnlike K) := by
  refine F.cal sc_want_unlike Sp1.len (fun _ _ _ _ _ _ us hl => match us, hl with | [_], _ => rfl) fun f cdv A outer s H vs Q E hr h => ?_
  have nd := sc_want_unlike.nd
  have hu := hu_of hr
  have m_list := G.list
  refine ⟨_, (pss_cons (ps_set (i := 1) nd rfl (Or.inl rfl) (pe_op op_cat (pe_lc (own := [("box", 6)]) (g := (gName 6)) (tt := tYes) rfl nd (pi_list (pe_ix ix_tup (pv 0) pe_int (fun _ _ => rfl))) (blkOk_by (own := [("box", 6)]) (N := N_want_unlike) (sc := defScope s_want_unlike) (by decide +kernel)) (fun _ _ _ _ _ => (pg_name (i := 6) nd rfl (Or.inl rfl))) (fun _ _ _ _ _ => pts_nil) (fun _ _ _ _ _ => (pe_ix (ix_tupK (K := K) rfl) (pv 6) pe_int (fun _ _ => rfl)))) (pe_callTy call_list_of (by rfl) m_list (by decide +kernel) (pa_cons (pe_ix ix_tup (pv 0) pe_int (fun _ _ => rfl)) pa_nil))))
    (pss_cons (ps_for PassesOwn.never rfl (pi_list (pe_ix ix_tup (pv 0) pe_int (fun _ _ => rfl))) (pg_tup rfl (pgs_cons (pg_name (i := 2) nd rfl (Or.inl rfl)) (pgs_cons (pg_name (i := 3) nd rfl (Or.inl rfl)) (pgs_cons (pg_name (i := 4) nd rfl (Or.inl rfl)) pgs_nil))))
      (pss_one (ps_set (i := 1) nd rfl (Or.inl rfl) (pe_op op_cat (pe_op op_cat (pv 1) (pe_lst (pa_cons (pv 2) pa_nil))) (pe_lc (own := [("box", 6)]) (g := (gName 6)) (tt := tYes) rfl nd (pi_list (pv 3)) (blkOk_by (own := [("box", 6)]) (N := N_want_unlike) (sc := defScope s_want_unlike) (by decide +kernel)) (fun _ _ _ _ _ => (pg_name (i := 6) nd rfl (Or.inl rfl))) (fun _ _ _ _ _ => pts_nil) (fun _ _ _ _ _ => (pe_ix (ix_tupK (K := K) rfl) (pv 6) pe_int (fun _ _ => rfl))))))))
    (pss_cons (ps_set (i := 5) nd rfl (Or.inl rfl) pe_dnewK)
    (pss_one (ps_for PassesOwn.never rfl (pi_list (pv 1)) (pg_name (i := 2) nd rfl (Or.inl rfl))
      (pss_cons (ps_if (pt_cmp (pc_din hu (pv 2) (pv 5))) pss_never pss_nil)
      (pss_one (ps_dput hu (pv 5) (pv 2) pe_bl rfl)))))))), ?_⟩
  obtain ⟨tree, rfl, T, h1, ok, q⟩ := h
  obtain ⟨t, b, l, h, bs, ls, hs, rfl, h2, b1, b2, l1, l2, g1, g2⟩ := Tree.at_ h1
  have hbl := ok.bl
  have hll := ok.ll
  refine ⟨_, rfl, t, _, 0, _, rfl, rfl, h2, at0, b, rfl, ⟨_, SqL.of b1⟩, fun D hD => lc_list (K := K) (a := b) (xs := bs) (LcP H T.boxes (fun x => some (.str x.name)) D) (LcP.start hD) (fun i H' _ z => SqL.of (z.same _ _ b1)) ?_ ?_⟩
  · intro i v H' hi z
    obtain ⟨x, hx, hv⟩ := b2.getM hi
    obtain ⟨t1, rfl, k1⟩ := Bx.at_ hv
    exact ⟨rfl, _, rfl, t1, _, 0, _, rfl, rfl, z.same.tup k1, at0, z.put (Same.refl _) hx rfl (by omega)⟩
  intro H1 z
  rw [b2.lenM] at z
  obtain ⟨z1, e1, z3⟩ := z.end_
  rw [fm_map] at z3
  refine ⟨_, rfl, t, _, 1, _, rfl, rfl, e1.tup h2, at1, l, ls, rfl, .inl (SqL.of (e1 _ _ l1)), fun l2' n2 => ?_⟩
  have e2 := e1.trans (Same.new (o := .lst ls) n2)
  refine ⟨D, l2', _, ls, rfl, rfl, Same.new n2 _ _ z3, upd_same, ?_, fun l3 n3 => ?_⟩
  · rw [List.length_map, l2.lenM, sizeLine_eq]
    omega
  have e3 := e2.trans (Same.new (o := .lst (T.boxes.map (fun x => V.str x.name) ++ ls)) n3)
  have hls : ls = T.locks.map V.str := l2.strs
  refine ⟨_, rfl, t, _, 2, _, rfl, rfl, e3.tup h2, rfl, h, rfl, ⟨_, SqL.of (e3 _ _ g1)⟩, for_list (K := K) (a := h) (xs := hs) (fun i σ H' => ∃ (x y z : Option V) (l' : Addr), σ = [some (.ref t), some (.ref l'), x, y, z, none, none] ∧ Same H H' ∧ H l' = none ∧ H' l' = some (.lst ((bn T.boxes ++ T.locks ++ nmL (T.hands.take i)).map V.str)))
    ⟨none, none, none, l3, rfl, e3, e2.free n3, ?_⟩ (fun i σ H' _ ⟨_, _, _, _, _, e, _⟩ => SqL.of (e _ _ g1)) ?_ ?_⟩
  · rw [upd_same, hls]
    show some (HO.lst _) = some (HO.lst ((bn T.boxes ++ T.locks ++ []).map V.str))
    rw [List.append_nil, List.map_append]
    unfold bn
    rw [List.map_map]
    rfl
  · rintro i v σ H' hi ⟨x, y, z, l', rfl, e4, nl, hl'⟩
    obtain ⟨hd, hh, hv⟩ := g2.getM hi
    have hm := List.mem_of_getElem? hh
    have hol := ok.ol hd hm
    obtain ⟨t1, o, r, rfl, k1, k2, k3⟩ := Hnd.at_ hv
    obtain ⟨ob, os, rfl, o1, o2⟩ := k2.lst_inv
    refine ⟨t1, _, rfl, e4.tup k1, rfl, _, _, rfl, _, _, rfl, _, _, rfl, rfl, ?_⟩
    refine ⟨_, rfl, _, rfl, (by show 1 ≤ sizeLine; decide), fun m1 p1 => ?_⟩
    have hnl := ok.nml i
    refine ⟨l', m1, _, [.str hd.name], rfl, rfl, Same.new p1 _ _ hl', upd_same, ?_, fun m2 p2 => ?_⟩
    · unfold bn
      rw [List.length_map, List.length_append, List.length_append, List.length_map, sizeLine_eq]
      show _ + 1 ≤ _
      omega
    obtain ⟨H2, hH2⟩ : ∃ H2, H2 = upd (upd H' m1 (.lst [.str hd.name])) m2 (.lst ((bn T.boxes ++ T.locks ++ nmL (T.hands.take i)).map V.str ++ [.str hd.name])) := ⟨_, rfl⟩
    have e5 : Same H' H2 := by
      rw [hH2]
      exact (Same.new p1).trans (Same.new p2)
    have hm2 : H2 m2 = some (.lst ((bn T.boxes ++ T.locks ++ nmL (T.hands.take i)).map V.str ++ [.str hd.name])) := by
      rw [hH2]
      exact upd_same
    rw [← hH2]
    have e6 := e4.trans e5
    refine ⟨_, rfl, ob, rfl, ⟨_, SqL.of (e6 _ _ o1)⟩, fun D2 hD2 => lc_list (K := K) (a := ob) (xs := os) (LcP H2 hd.owns (fun x => some (.str x.name)) D2) (LcP.start hD2) (fun i H' _ z => SqL.of (z.same _ _ (e6 _ _ o1))) ?_ ?_⟩
    · intro j u H3 hj z
      obtain ⟨x, hx, hv⟩ := o2.getM hj
      obtain ⟨t2, rfl, k4⟩ := Bx.at_ hv
      exact ⟨rfl, _, rfl, t2, _, 0, _, rfl, rfl, z.same.tup (e6.tup k4), at0, z.put (Same.refl _) hx rfl (by omega)⟩
    intro H3 z
    rw [o2.lenM] at z
    obtain ⟨z1, e7, z3⟩ := z.end_
    rw [fm_map] at z3
    refine ⟨m2, D2, _, _, rfl, rfl, e7 _ _ hm2, z3, ?_, fun m3 p3 => ?_⟩
    · unfold bn
      rw [List.length_append, List.length_map, List.length_append, List.length_append, List.length_map, List.length_map, sizeLine_eq]
      show _ + 1 + _ ≤ _
      omega
    refine ⟨some (.str hd.name), some (.ref ob), some r, m3, rfl, (e6.trans e7).trans (Same.new p3), e6.free (e7.free p3), ?_⟩
    rw [upd_same, nmL_take hh]
    simp [bn]
  · rintro σ H' ⟨x, y, z, l', rfl, e4, nl, hl'⟩
    rw [g2.lenM, List.take_length] at hl'
    refine fun m hm => ?_
    have hl2 : upd H' m (.dK []) l' = some (.lst (T.names.map V.str)) := Same.new hm _ _ hl'
    have nlm : l' ≠ m := fun e => by
      rw [← e, hl'] at hm
      cases hm
    have hnm : T.names.length ≤ 100 := by
      have := ok.nml 3
      have h3 : T.hands.take 3 = T.hands := List.take_of_length_le ok.hl
      rw [h3] at this
      unfold Tree.names bn
      rw [List.length_append, List.length_append, List.length_map]
      omega
    refine ⟨_, rfl, l', rfl, ⟨_, SqL.of hl2⟩, for_list (K := K) (a := l') (xs := T.names.map V.str) (fun i σ H2 => ∃ (x y z : Option V), σ = [some (.ref t), some (.ref l'), x, y, z, some (.ref m), none] ∧ Same H H2 ∧ H2 l' = some (.lst (T.names.map V.str)) ∧ H2 m = some (.dK ((T.names.take i).map fun x => ((Sum.inr x : Key), V.bl true))))
      ⟨x, y, z, rfl, e4.trans (Same.new hm), hl2, upd_same⟩ (fun i σ H' _ ⟨_, _, _, _, _, e, _⟩ => SqL.of e) ?_ ?_⟩
    · rintro i v σ H2 hi ⟨x, y, z, rfl, e5, k1, k2⟩
      rw [List.getElem?_map] at hi
      cases hx : T.names[i]? with
      | none =>
        rw [hx] at hi
        cases hi
      | some n =>
        rw [hx] at hi
        cases hi
        have hni : n ∉ T.names.take i := fun hn => by
          obtain ⟨j, hj⟩ := List.mem_iff_getElem?.mp hn
          rw [List.getElem?_take] at hj
          by_cases hji : j < i
          · rw [if_pos hji] at hj
            have := (List.getElem?_inj (List.getElem?_eq_some_iff.mp hj).1 ok.nd).mp (hj.trans hx.symm)
            omega
          · rw [if_neg hji] at hj
            cases hj
        have hv0 : valV ((T.names.take i).map fun x => ((Sum.inr x : Key), V.bl true)) (.inr n) = none := by
          have z := val_lkp (g := fun x : Str => (Sum.inr x : Key)) (fun _ _ e => Sum.inr.inj e) (fun _ : Unit => V.bl true) n ((T.names.take i).map fun x => (x, ()))
          rw [List.map_map] at z
          refine z.trans ?_
          rw [lkp_none.mpr]
          · rfl
          · rw [List.map_map]
            intro y
            obtain ⟨y1, y2, y3⟩ := List.mem_map.mp y
            exact hni (y3 ▸ y2)
        refine ⟨_, rfl, _, rfl, m, _, rfl, DGet.k (k := .inr n) k2, ?_⟩
        rw [hv0]
        refine ⟨_, rfl, ?_⟩
        refine ⟨_, rfl, _, rfl, m, _, rfl, DPut.k (k := .inr n) k2 ?_, ?_⟩
        · rw [List.length_map, List.length_take, sizeLine_eq]
          omega
        rw [putK_none hv0]
        have hmn : H m = none := e4.free hm
        refine ⟨_, y, z, rfl, e5.mut hmn, upd_at k1 nlm, ?_⟩
        rw [upd_same, List.take_succ, hx, List.map_append]
        rfl
    · rintro σ H2 ⟨x, y, z, rfl, e5, k1, k2⟩
      exact q _ e5
def spAllB (K : PySem.W.Frag) : Sp := Sp1 fun tree H Q => ∃ (F : Hp) (T : Tree), Same F H ∧ Da K F tree T.d ∧ T.Ok ∧ ∀ F' v H', Gr Non F H F' H' → Da K F' v (.list (T.bos.map Bo.d)) → Q v H'
theorem bos_own {F : Hp} {t1 t2 t3 : Addr} {b : Bx} {w' : Str} (h : SqT K F t3 ([.str b.name, .str w'] ++ [.int b.low, .int b.high, .int b.start])) : Da K F (.ref t3) (b.o w').d :=
  .tup h (.cons (.str _) (.cons (.str _) (.cons (.int _) (.cons (.int _) (.cons (.int _) .nil)))))
theorem bos_take {hs : List Hnd} {i : Nat} {h : Hnd} (e : hs[i]? = some h) : ((hs.take (i + 1)).map fun h => h.owns.map (Bx.o h.name)).flatten = ((hs.take i).map fun h => h.owns.map (Bx.o h.name)).flatten ++ h.owns.map (Bx.o h.name) := by
  rw [List.take_succ, e, List.map_append, List.flatten_append]
  simp
theorem ok_allB (F : FunAt K mg "all_boxes" s_all_boxes) (G : Glb K mg) : Cal P w K mg base "all_boxes" 1 ["tree"] (spAllB K) := by
  refine F.cal sc_all_boxes Sp1.len (fun _ _ _ _ _ _ us hl => match us, hl with | [_], _ => rfl) fun f cdv A outer s H vs Q E hr h => ?_
  have nd := sc_all_boxes.nd
  have hu := hu_of hr
  have m_len := G.len
  have m_tuple := G.tuple
  refine ⟨_, (pss_cons (ps_setLc (i := 1) rfl nd rfl rfl (sw_true rfl rfl rfl (by decide +kernel)) (own := [("box", 5)]) (g := (gName 5)) (tt := tYes) (pi_list (pe_ix ix_tup (pv 0) pe_int (fun _ _ => rfl))) (blkOk_by (own := [("box", 5)]) (N := N_all_boxes) (sc := defScope s_all_boxes) (by decide +kernel)) (fun _ _ _ _ _ => (pg_name (i := 5) nd rfl (Or.inl rfl))) (fun _ _ _ _ _ => pts_nil) (fun _ _ _ _ _ => (pe_op (op_catAK (K := K) rfl) (pe_tup (pa_cons (pe_ix (ix_tupK (K := K) rfl) (pv 5) pe_int (fun _ _ => rfl)) (pa_cons pe_str pa_nil))) (pe_callTy (call_tuple_ofK (K := K) rfl) (by rfl) m_tuple (by decide +kernel) (pa_cons (pe_slice (sl_tupAK (K := K) rfl) (pv 5) (po_some pe_int) po_none) pa_nil)))))
    (pss_cons (ps_set (i := 1) nd rfl (Or.inl rfl) (pe_op op_cat (pv 1) (pe_lc (own := [("name", 2)]) (g := (gName 2)) (tt := tYes) rfl nd (pi_list (pe_ix ix_tup (pv 0) pe_int (fun _ _ => rfl))) (blkOk_by (own := [("name", 2)]) (N := N_all_boxes) (sc := defScope s_all_boxes) (by decide +kernel)) (fun _ _ _ _ _ => (pg_name (i := 2) nd rfl (Or.inl rfl))) (fun _ _ _ _ _ => pts_nil) (fun _ _ _ _ _ => (pe_tup (pa_cons (pv 2) (pa_cons pe_str (pa_cons pe_int (pa_cons (pe_callB (call_len_seqK (K := K) rfl) (by rfl) m_len (by decide +kernel) (pa_cons (pe_ix (ix_tupK (K := K) rfl) (pv 0) pe_int (fun _ _ => rfl)) pa_nil)) (pa_cons pe_int pa_nil))))))))))
    (pss_cons (ps_for PassesOwn.never rfl (pi_list (pe_ix ix_tup (pv 0) pe_int (fun _ _ => rfl))) (pg_tup rfl (pgs_cons (pg_name (i := 2) nd rfl (Or.inr rfl)) (pgs_cons (pg_name (i := 3) nd rfl (Or.inl rfl)) (pgs_cons (pg_name (i := 4) nd rfl (Or.inl rfl)) pgs_nil))))
      (pss_one (ps_set (i := 1) nd rfl (Or.inl rfl) (pe_op op_cat (pv 1) (pe_lc (own := [("box", 5)]) (g := (gName 5)) (tt := tYes) rfl nd (pi_list (pv 3)) (blkOk_by (own := [("box", 5)]) (N := N_all_boxes) (sc := defScope s_all_boxes) (by decide +kernel)) (fun _ _ _ _ _ => (pg_name (i := 5) nd rfl (Or.inl rfl))) (fun _ _ _ _ _ => pts_nil) (fun _ _ _ _ _ => (pe_op (op_catAK (K := K) rfl) (pe_tup (pa_cons (pe_ix (ix_tupK (K := K) rfl) (pv 5) pe_int (fun _ _ => rfl)) (pa_cons (pv 2) pa_nil))) (pe_callTy (call_tuple_ofK (K := K) rfl) (by rfl) m_tuple (by decide +kernel) (pa_cons (pe_slice (sl_tupAK (K := K) rfl) (pv 5) (po_some pe_int) po_none) pa_nil)))))))))
    (pss_one (ps_ret (pv 1)))))), ?_⟩
  obtain ⟨tree, rfl, F0, T, hF, h1, ok, q⟩ := h
  obtain ⟨t, b, l, h, bs, ls, hs, rfl, h2, b1, b2, l1, l2, g1, g2⟩ := Tree.at_ h1
  have hbl := ok.bl
  have hll := ok.ll
  refine ⟨_, rfl, t, _, 0, _, rfl, rfl, hF.tup h2, at0, b, rfl, ⟨_, SqL.of (hF _ _ b1)⟩, fun D hD => lc_list (K := K) (a := b) (xs := bs) (LcD K F0 H (T.boxes.map fun x => (x.o "").d) D) (LcD.start hF hD)
      (fun i H' _ z => by
        obtain ⟨_, F', acc, g, _⟩ := z
        exact SqL.of (g.fh _ _ (g.ff _ _ b1))) ?_ ?_⟩
  · rintro i v H' hi ⟨hD', F', acc, g, n', e, hd⟩
    obtain ⟨x, hx, hv⟩ := b2.getM hi
    obtain ⟨t0, rfl, k1⟩ := Bx.at_ hv
    have k2 := g.fh.tup (g.ff.tup k1)
    refine ⟨rfl, _, rfl, t0, _, 0, _, rfl, rfl, k2, at0, (by show 2 ≤ sizeLine; decide), fun t1 p1 => ?_⟩
    have e1 := Same.new (o := .tup [.str x.name, .str ""]) p1
    have a1 := (Gr.refl (O := Non) g.fh).newF (o := .tup [.str x.name, .str ""]) p1
    refine ⟨_, rfl, _, rfl, t0, _, rfl, e1.tup k2, fun w => absurd w.1 (by show ¬ HT.sIx 4 0 (some 1) = 0; decide), fun _ t2 p2 => ?_⟩
    have e2 := Same.new (o := .tup [.int x.low, .int x.high, .int x.start]) p2
    have a2 := a1.newF (o := .tup [.int x.low, .int x.high, .int x.start]) p2
    refine ⟨t2, [.int x.low, .int x.high, .int x.start], rfl, .inr ⟨SqT.of upd_same, ?_⟩⟩
    refine ⟨t1, t2, [.str x.name, .str ""], [.int x.low, .int x.high, .int x.start], rfl, rfl, SqT.of (e2 _ _ upd_same), SqT.of upd_same, (by show 2 + 3 ≤ sizeLine; decide), (fun z => nomatch z), (fun _ z => nomatch z), fun _ _ t3 p3 => ?_⟩
    have a3 := a2.newF (o := .tup ([.str x.name, .str ""] ++ [.int x.low, .int x.high, .int x.start])) p3
    exact LcD.put hD' g n' e hd a3 (bos_own (t1 := t1) (t2 := t2) (SqT.of upd_same)) (by rw [List.getElem?_map, hx]; rfl) (by rw [List.length_map]; omega)
  intro H1 z
  have e0 : bs.length = (T.boxes.map fun x => (x.o "").d).length := by rw [b2.lenM, List.length_map]
  rw [e0] at z
  obtain ⟨F1, acc1, gr1, d1, f1, hd1, _⟩ := z.end_
  have t2' := gr1.fh.tup (gr1.ff.tup h2)
  refine ⟨_, rfl, _, rfl, t, _, 1, _, rfl, rfl, t2', at1, l, rfl, ⟨_, SqL.of (gr1.fh _ _ (gr1.ff _ _ l1))⟩, fun D2 hD2 => lc_list (K := K) (a := l) (xs := ls) (LcD K F1 H1 (T.locks.map fun x => (Bo.d ⟨x, "", 0, (T.hands.length : Int), 0⟩)) D2) (LcD.start gr1.fh hD2)
      (fun i H' _ z => by
        obtain ⟨_, F', acc, g, _⟩ := z
        exact SqL.of (g.fh _ _ (g.ff _ _ (gr1.ff _ _ l1)))) ?_ ?_⟩
  · rintro i v H' hi ⟨hD', F', acc, g, n', e, hd⟩
    obtain ⟨x, hx, hv⟩ := l2.getM hi
    cases hv.str_inv
    refine ⟨rfl, _, rfl, _, rfl, t, _, 2, _, rfl, rfl, g.fh.tup (g.ff.tup (gr1.ff.tup h2)), rfl, h, _, rfl, .inl (SqL.of (g.fh _ _ (g.ff _ _ (gr1.ff _ _ g1)))), (by show 5 ≤ sizeLine; decide), fun t1 p1 => ?_⟩
    have a1 := (Gr.refl (O := Non) g.fh).newF (o := .tup [.str x, .str "", .int 0, .int (hs.length : Nat), .int 0]) p1
    refine LcD.put hD' g n' e hd a1 (d := Bo.d ⟨x, "", 0, (T.hands.length : Int), 0⟩) ?_ (by rw [List.getElem?_map, hx]; rfl) (by rw [List.length_map]; omega)
    have hl : (hs.length : Int) = (T.hands.length : Int) := by rw [g2.lenM]
    refine .tup (SqT.of upd_same) (.cons (.str _) (.cons (.str _) (.cons (.int _) (.cons ?_ (.cons (.int _) .nil)))))
    rw [hl]
    exact .int _
  intro H2 z
  have e0' : ls.length = (T.locks.map fun x => (Bo.d ⟨x, "", 0, (T.hands.length : Int), 0⟩)).length := by rw [l2.lenM, List.length_map]
  rw [e0'] at z
  obtain ⟨F2, acc2, gr2, d2, f2, hd2, _⟩ := z.end_
  have hl1 : acc1.length ≤ 10 := by
    have := hd1.lenM
    omega
  have hl2 : acc2.length ≤ 10 := by
    have := hd2.lenM
    omega
  refine ⟨D, D2, acc1, acc2, rfl, rfl, gr2.kp _ _ d1 (fun z => z), d2, by rw [sizeLine_eq]; omega, fun l3 n3 => ?_⟩
  have gr3 := (gr1.trans gr2).newF (o := .lst (acc1 ++ acc2)) n3
  have gr3' := gr2.newF (o := .lst (acc1 ++ acc2)) n3
  have hd3 : Das K (upd F2 l3 (.lst (acc1 ++ acc2))) (acc1 ++ acc2) ((T.boxes.map (Bx.o "") ++ (T.locks.map fun x => (⟨x, "", 0, (T.hands.length : Int), 0⟩ : Bo)) ++ ((T.hands.take 0).map fun h => h.owns.map (Bx.o h.name)).flatten).map Bo.d) := by
    have z := ((hd1.mono gr2.ff).app hd2).mono (Same.new (o := .lst (acc1 ++ acc2)) (gr2.fh.free n3))
    have e : (T.boxes.map (Bx.o "") ++ (T.locks.map fun x => (⟨x, "", 0, (T.hands.length : Int), 0⟩ : Bo)) ++ ((T.hands.take 0).map fun h => h.owns.map (Bx.o h.name)).flatten).map Bo.d = (T.boxes.map fun x => (x.o "").d) ++ (T.locks.map fun x => (Bo.d ⟨x, "", 0, (T.hands.length : Int), 0⟩)) := by
      show (_ ++ [] : List Bo).map Bo.d = _
      rw [List.append_nil, List.map_append, List.map_map, List.map_map]
      rfl
    rw [e]
    exact z
  have hF3 := gr3.ff
  refine ⟨_, rfl, t, _, 2, _, rfl, rfl, gr3.fh.tup (gr3.ff.tup h2), rfl, h, rfl, ⟨_, SqL.of (gr3.fh _ _ (gr3.ff _ _ g1))⟩, for_list (K := K) (a := h) (xs := hs) (fun i σ H' => ∃ (x y z : Option V) (F' : Hp) (l' : Addr) (acc : List V), σ = [some (.ref t), some (.ref l'), x, y, z, none] ∧ Gr Non F0 H F' H' ∧ F' l' = some (.lst acc) ∧
      Das K F' acc ((T.boxes.map (Bx.o "") ++ (T.locks.map fun x => (⟨x, "", 0, (T.hands.length : Int), 0⟩ : Bo)) ++ ((T.hands.take i).map fun h => h.owns.map (Bx.o h.name)).flatten).map Bo.d))
    ⟨none, none, none, _, l3, _, rfl, gr3, upd_same, hd3⟩ (fun i σ H' _ ⟨_, _, _, _, _, _, _, g, _⟩ => SqL.of (g.fh _ _ (g.ff _ _ g1))) ?_ ?_⟩
  · rintro i v σ H' hi ⟨x, y, z, F', l', acc, rfl, g, hl', hd⟩
    obtain ⟨hh, ehh, hv⟩ := g2.getM hi
    have hm := List.mem_of_getElem? ehh
    have hol := ok.ol hh hm
    obtain ⟨t1, o, r, rfl, k1, k2, k3⟩ := Hnd.at_ hv
    obtain ⟨ob, os, rfl, o1, o2⟩ := k2.lst_inv
    refine ⟨t1, _, rfl, g.fh.tup (g.ff.tup k1), rfl, _, _, rfl, _, _, rfl, _, _, rfl, rfl, ?_⟩
    refine ⟨_, rfl, _, rfl, ob, rfl, ⟨_, SqL.of (g.fh _ _ (g.ff _ _ o1))⟩, fun D3 hD3 => lc_list (K := K) (a := ob) (xs := os) (LcD K F' H' (hh.owns.map fun x => (x.o hh.name).d) D3) (LcD.start g.fh hD3)
      (fun i H' _ z => by
        obtain ⟨_, F', acc, g', _⟩ := z
        exact SqL.of (g'.fh _ _ (g'.ff _ _ (g.ff _ _ o1)))) ?_ ?_⟩
    · rintro j v H3 hj ⟨hD', F3, acc3, g3, n', e, hd3⟩
      obtain ⟨x, hx, hv⟩ := o2.getM hj
      obtain ⟨t0, rfl, k1⟩ := Bx.at_ hv
      have k2 := g3.fh.tup (g3.ff.tup (g.ff.tup k1))
      refine ⟨rfl, _, rfl, t0, _, 0, _, rfl, rfl, k2, at0, _, rfl, (by show 2 ≤ sizeLine; decide), fun t1 p1 => ?_⟩
      have e1 := Same.new (o := .tup [.str x.name, .str hh.name]) p1
      have a1 := (Gr.refl (O := Non) g3.fh).newF (o := .tup [.str x.name, .str hh.name]) p1
      refine ⟨_, rfl, _, rfl, t0, _, rfl, e1.tup k2, fun w => absurd w.1 (by show ¬ HT.sIx 4 0 (some 1) = 0; decide), fun _ t2 p2 => ?_⟩
      have e2 := Same.new (o := .tup [.int x.low, .int x.high, .int x.start]) p2
      have a2 := a1.newF (o := .tup [.int x.low, .int x.high, .int x.start]) p2
      refine ⟨t2, [.int x.low, .int x.high, .int x.start], rfl, .inr ⟨SqT.of upd_same, ?_⟩⟩
      refine ⟨t1, t2, [.str x.name, .str hh.name], [.int x.low, .int x.high, .int x.start], rfl, rfl, SqT.of (e2 _ _ upd_same), SqT.of upd_same, (by show 2 + 3 ≤ sizeLine; decide), (fun z => nomatch z), (fun _ z => nomatch z), fun _ _ t3 p3 => ?_⟩
      have a3 := a2.newF (o := .tup ([.str x.name, .str hh.name] ++ [.int x.low, .int x.high, .int x.start])) p3
      exact LcD.put hD' g3 n' e hd3 a3 (bos_own (t1 := t1) (t2 := t2) (SqT.of upd_same)) (by rw [List.getElem?_map, hx]; rfl) (by rw [List.length_map]; omega)
    intro H3 z
    have e0 : os.length = (hh.owns.map fun x => (x.o hh.name).d).length := by rw [o2.lenM, List.length_map]
    rw [e0] at z
    obtain ⟨F4, acc4, gr4, d4, f4, hd4, _⟩ := z.end_
    refine ⟨l', D3, acc, acc4, rfl, rfl, gr4.fh _ _ (gr4.ff _ _ hl'), d4, ?_, fun l5 n5 => ?_⟩
    · have z1 := hd.lenM
      have z2 := hd4.lenM
      rw [List.length_append, List.length_append, List.length_map, List.length_map] at z1
      have z3 := len_flat (fun h : Hnd => h.owns.map (Bx.o h.name)) 10 (T.hands.take i) fun x hx => by
        rw [List.length_map]
        exact ok.ol x (List.mem_of_mem_take hx)
      have k : (T.hands.take i).length ≤ 3 := Nat.le_trans (List.length_take_le' _ _) ok.hl
      have u : (T.hands.take i).length * 10 ≤ 3 * 10 := Nat.mul_le_mul_right _ k
      rw [sizeLine_eq]
      omega
    · have gr5 := (g.trans gr4).newF (o := .lst (acc ++ acc4)) n5
      refine ⟨some (.str hh.name), some (.ref ob), some r, _, l5, acc ++ acc4, rfl, gr5, upd_same, ?_⟩
      rw [bos_take ehh, ← List.append_assoc, List.map_append (l₂ := hh.owns.map _), List.map_map]
      exact ((hd.mono gr4.ff).app hd4).mono (Same.new (gr4.fh.free n5))
  · rintro σ H' ⟨x, y, z, F', l', acc, rfl, g, hl', hd⟩
    rw [g2.lenM, List.take_length] at hd
    exact ⟨_, rfl, q _ _ _ g (.lst hl' hd)⟩
end
end Ca
namespace Ca
open PySem L2
abbrev s_Laying__init_ : Stmt := inClass (top 22) 0
abbrev N_Laying__init_ : List Str := ["self", "tree", "name", "owns", "rows", "box", "hand"]
theorem sc_Laying__init_ : FnScope N_Laying__init_ ["self", "tree"] (defScope s_Laying__init_) := ⟨rfl, rfl, rfl, by decide +kernel, rfl, by decide +kernel, by decide +kernel⟩
-- cells: []  slots: 0=self 1=tree 2=name 3=owns 4=rows 5=box 6=hand
section
variable {P : Program} {w : World} {K : PySem.W.Frag} {mg : Str → Option Value} {base : Heap} {C : Addr}
/-- while the laying object is made -/
structure Ini (C dx x : Addr) (F H F1 H1 : Hp) (fs : List (Str × V)) : Prop where
  gr : Gr (fun b => b = x) F H F1 H1
  at_ : H1 x = some (.ins C dx fs)
  nf : F1 x = none
  hx : ∃ o, H x = some o
section
variable {dx x : Addr} {F H F1 H1 : Hp} {fs : List (Str × V)}
theorem Ini.ne (a : Ini C dx x F H F1 H1 fs) {p : Addr} (h : H p = none) : x ≠ p := fun e => by
  obtain ⟨o, ho⟩ := a.hx
  rw [e, h] at ho
  cases ho
theorem Ini.fld (a : Ini C dx x F H F1 H1 fs) {f : Str} {v : V} : Ini C dx x F H F1 (upd H1 x (.ins C dx (putF f v fs))) (putF f v fs) := ⟨a.gr.set a.nf a.at_ (.inl rfl), upd_same, a.nf, a.hx⟩
theorem Ini.to (a : Ini C dx x F H F1 H1 fs) {gs : List (Str × V)} (e : fs = gs) : Ini C dx x F H F1 H1 gs := e ▸ a
theorem Ini.new (a : Ini C dx x F H F1 H1 fs) {p : Addr} {o : HO} (h : H1 p = none) : Ini C dx x F H F1 (upd H1 p o) fs := ⟨a.gr.new h, upd_at a.at_ (a.ne (a.gr.th _ h)), a.nf, a.hx⟩
theorem Ini.newF (a : Ini C dx x F H F1 H1 fs) {p : Addr} {o : HO} (h : H1 p = none) : Ini C dx x F H (upd F1 p o) (upd H1 p o) fs := ⟨a.gr.newF h, upd_at a.at_ (a.ne (a.gr.th _ h)), by rw [upd_ne (a.ne (a.gr.th _ h))]; exact a.nf, a.hx⟩
theorem Ini.same (a : Ini C dx x F H F1 H1 fs) {H2 : Hp} (e : Same H1 H2) : Ini C dx x F H F1 H2 fs := ⟨a.gr.same e, e _ _ a.at_, a.nf, a.hx⟩
theorem Ini.frz (a : Ini C dx x F H F1 H1 fs) {p : Addr} {o : HO} (n : F1 p = none) (h : H1 p = some o) (hp : H p = none) : Ini C dx x F H (upd F1 p o) H1 fs := ⟨a.gr.frz n h hp, a.at_, by rw [upd_ne (a.ne hp)]; exact a.nf, a.hx⟩
theorem Ini.set (a : Ini C dx x F H F1 H1 fs) {p : Addr} {o u : HO} (n : F1 p = none) (h : H1 p = some u) (hp : H p = none) : Ini C dx x F H F1 (upd H1 p o) fs := ⟨a.gr.set n h (.inr hp), upd_at a.at_ (a.ne hp), a.nf, a.hx⟩
end
def spInit (K : PySem.W.Frag) (C : Addr) : Sp := Sp2 fun self tree H Q => ∃ (F : Hp) (x dx : Addr) (T : Tree), self = .ref x ∧ H x = some (.ins C dx []) ∧ F x = none ∧ Same F H ∧ Da K F tree T.d ∧ T.Ok ∧
  ∀ (c : Lc) (s : Ls) F' H', c.l = x → c.hands = T.hn → c.locks = T.locks → c.boxes = bn T.boxes → c.owners = ownL T.hands → s.steps = [] → s.labels = [] → s.says = [] → s.asked = [] → s.bud = 0 → LyAt K C c s F' H' → Gr (fun b => b = x) F H F' H' → (∀ b, own c s b → b = x ∨ H b = none) → Q .non H'
theorem ownL_take {hs : List Hnd} {i : Nat} {h : Hnd} (e : hs[i]? = some h) : ownL (hs.take (i + 1)) = ownL (hs.take i) ++ h.owns.map (fun b => (b.name, h.name)) := by
  unfold ownL
  rw [List.take_succ, e, List.map_append, List.flatten_append]
  simp
/-- the boxes of one's own are all among the names -/
theorem own_sub : ∀ hs : List Hnd, List.Sublist ((ownL hs).map (·.1)) (nmL hs)
  | [] => List.Sublist.slnil
  | h :: hs => by
    have e1 : (ownL (h :: hs)).map (·.1) = bn h.owns ++ (ownL hs).map (·.1) := by
      unfold ownL bn
      rw [List.map_cons, List.flatten_cons, List.map_append, List.map_map]
      rfl
    have e2 : nmL (h :: hs) = h.name :: (bn h.owns ++ nmL hs) := by
      unfold nmL
      rw [List.map_cons, List.flatten_cons]
      rfl
    rw [e1, e2]
    exact List.Sublist.cons _ ((List.Sublist.refl _).append (own_sub hs))
theorem Tree.Ok.ownNd {T : Tree} (o : T.Ok) : ((ownL T.hands).map (·.1)).Nodup := by
  have z := o.nd
  unfold Tree.names at z
  exact (List.nodup_append.mp z).2.1.sublist (own_sub T.hands)
theorem Tree.Ok.boxNd {T : Tree} (o : T.Ok) : (bn T.boxes).Nodup := by
  have z := o.nd
  unfold Tree.names at z
  exact (List.nodup_append.mp (List.nodup_append.mp z).1).1
theorem take_new {α : Type} {l : List α} {i : Nat} {x : α} (nd : l.Nodup) (hx : l[i]? = some x) : x ∉ l.take i := fun hn => by
  obtain ⟨j, hj⟩ := List.mem_iff_getElem?.mp hn
  rw [List.getElem?_take] at hj
  by_cases hji : j < i
  · rw [if_pos hji] at hj
    have := (List.getElem?_inj (List.getElem?_eq_some_iff.mp hj).1 nd).mp (hj.trans hx.symm)
    omega
  · rw [if_neg hji] at hj
    cases hj
theorem ownL_len {T : Tree} (o : T.Ok) (i : Nat) : (ownL (T.hands.take i)).length ≤ 33 := by
  have z := (own_sub (T.hands.take i)).length_le
  rw [List.length_map] at z
  exact Nat.le_trans z (o.nml i)
theorem ok_init (F : MakAt K mg "Laying" C "Laying.__init__" s_Laying__init_) (G : Glb K mg) (L : LCls K C) : Mak P w K mg base "Laying" C 1 ["self", "tree"] (spInit K C) := by
  refine F.mak sc_Laying__init_ Sp2.len (fun _ _ _ _ _ _ us hl => match us, hl with | [_, _], _ => rfl) fun f cdv A outer s H vs Q E hr h => ?_
  have nd := sc_Laying__init_.nd
  have hu := hu_of hr
  have m_list := G.list
  refine ⟨_, (pss_cons (ps_fld (pv 0) (pe_lc (own := [("hand", 6)]) (g := (gName 6)) (tt := tYes) rfl nd (pi_list (pe_ix ix_tup (pv 1) pe_int (fun _ _ => rfl))) (blkOk_by (own := [("hand", 6)]) (N := N_Laying__init_) (sc := defScope s_Laying__init_) (by decide +kernel)) (fun _ _ _ _ _ => (pg_name (i := 6) nd rfl (Or.inl rfl))) (fun _ _ _ _ _ => pts_nil) (fun _ _ _ _ _ => (pe_ix (ix_tupK (K := K) rfl) (pv 6) pe_int (fun _ _ => rfl)))) rfl)
    (pss_cons (ps_fld (pv 0) (pe_callTy call_list_of (by rfl) m_list (by decide +kernel) (pa_cons (pe_ix ix_tup (pv 1) pe_int (fun _ _ => rfl)) pa_nil)) rfl)
    (Evl.pss_cut (ps_fld (pv 0) pe_dnewK rfl)
    (pss_cons (ps_for PassesOwn.never rfl (pi_list (pe_lc (own := [("box", 5)]) (g := (gName 5)) (tt := tYes) rfl nd (pi_list (pe_ix ix_tup (pv 1) pe_int (fun _ _ => rfl))) (blkOk_by (own := [("box", 5)]) (N := N_Laying__init_) (sc := defScope s_Laying__init_) (by decide +kernel)) (fun _ _ _ _ _ => (pg_name (i := 5) nd rfl (Or.inl rfl))) (fun _ _ _ _ _ => pts_nil) (fun _ _ _ _ _ => (pe_ix (ix_tupK (K := K) rfl) (pv 5) pe_int (fun _ _ => rfl))))) (pg_name (i := 2) nd rfl (Or.inl rfl))
      (pss_one (ps_dput hu (pe_fld (pv 0) rfl) (pv 2) pe_str rfl)))
    (Evl.pss_cut (ps_fld (pv 0) pe_dnewK rfl)
    (Evl.pss_cut (ps_for PassesOwn.never rfl (pi_list (pe_ix ix_tup (pv 1) pe_int (fun _ _ => rfl))) (pg_tup rfl (pgs_cons (pg_name (i := 2) nd rfl (Or.inl rfl)) (pgs_cons (pg_name (i := 3) nd rfl (Or.inl rfl)) (pgs_cons (pg_name (i := 4) nd rfl (Or.inl rfl)) pgs_nil))))
      (pss_one (ps_for PassesOwn.never rfl (pi_list (pv 3)) (pg_name (i := 5) nd rfl (Or.inl rfl))
        (pss_one (ps_dput hu (pe_fld (pv 0) rfl) (pe_ix ix_tup (pv 5) pe_int (fun _ _ => rfl)) (pv 2) rfl)))))
    (pss_cons (ps_fld (pv 0) (pe_lst pa_nil) rfl)
    (pss_cons (ps_fld (pv 0) pe_dnewT rfl)
    (pss_cons (ps_fld (pv 0) pe_dnewT rfl)
    (pss_cons (ps_fld (pv 0) (pe_lst pa_nil) rfl)
    (pss_cons (ps_fld (pv 0) pe_str rfl)
    (pss_one (ps_fld (pv 0) pe_int rfl))))))))))))), ?_⟩
  obtain ⟨self, tree, rfl, F0, x, dx, T, rfl, hx, nx, hF, h1, ok, post⟩ := h
  obtain ⟨t, b, l, h, bs, ls, hs, rfl, h2, b1, b2, l1, l2, g1, g2⟩ := Tree.at_ h1
  have hbl := ok.bl
  have hll := ok.ll
  have hhl := ok.hl
  have i0 : Ini C dx x F0 H F0 H [] := ⟨Gr.refl hF, hx, nx, _, hx⟩
  -- hands
  refine ⟨_, rfl, t, _, 2, _, rfl, rfl, hF.tup h2, rfl, h, rfl, ⟨_, SqL.of (hF _ _ g1)⟩, fun D1 hD1 => lc_list (K := K) (a := h) (xs := hs) (LcP H T.hands (fun x => some (.str x.name)) D1) (LcP.start hD1) (fun i H' _ z => SqL.of (z.same _ _ (hF _ _ g1))) ?_ ?_⟩
  · intro i v H' hi z
    obtain ⟨x, hx, hv⟩ := g2.getM hi
    obtain ⟨t1, o, r, rfl, k1, k2, k3⟩ := Hnd.at_ hv
    exact ⟨rfl, _, rfl, t1, _, 0, _, rfl, rfl, z.same.tup (hF.tup k1), at0, z.put (Same.refl _) hx rfl (by omega)⟩
  intro H1 z
  rw [g2.lenM] at z
  obtain ⟨_, e1, z3⟩ := z.end_
  rw [fm_map] at z3
  have i1 := (i0.same e1).frz (hF.free hD1) z3 hD1
  refine ⟨_, rfl, x, C, dx, [], rfl, i1.at_, L.cls, L.na "hands" (by decide +kernel), (by decide : 0 < 1000), ?_⟩
  have i2 := (i1.fld (f := "hands") (v := .ref D1)).to (gs := [("hands", V.ref D1)]) rfl
  -- locks
  refine ⟨_, rfl, t, _, 1, _, rfl, rfl, i2.gr.fh.tup (i2.gr.ff.tup h2), at1, l, ls, rfl, .inl (SqL.of (i2.gr.fh _ _ (i2.gr.ff _ _ l1))), fun D3 n3 => ?_⟩
  have i3 := i2.newF (o := .lst ls) n3
  refine ⟨_, rfl, x, C, dx, _, rfl, i3.at_, L.cls, L.na "locks" (by decide +kernel), (by show 1 < 1000; decide), ?_⟩
  have i4 := (i3.fld (f := "locks") (v := .ref D3)).to (gs := [("hands", V.ref D1), ("locks", V.ref D3)]) rfl
  -- boxes
  have q1 : upd (upd F0 D1 (.lst (T.hands.map fun x => V.str x.name))) D3 (.lst ls) D1 = some (.lst (T.hands.map fun x => V.str x.name)) := (Same.new (i2.gr.fh.free n3)) _ _ upd_same
  refine ⟨fun σ' H' => ∃ (D5 : Addr) (F1 : Hp), σ' = [some (.ref x), some (.ref t), none, none, none, none, none] ∧ Ini C dx x F0 H F1 H' [("hands", .ref D1), ("locks", .ref D3), ("boxes", .ref D5)] ∧ F1 D1 = some (.lst (T.hands.map fun x => V.str x.name)) ∧ F1 D3 = some (.lst ls) ∧ F1 D5 = none ∧ H D5 = none ∧ H' D5 = some (.dK []), ?_, ?_⟩
  · refine fun D5 n5 => ?_
    have i5 := i4.new (o := .dK []) n5
    refine ⟨_, rfl, x, C, dx, _, rfl, i5.at_, L.cls, L.na "boxes" (by decide +kernel), (by show 2 < 1000; decide), ?_⟩
    have hn5 : H D5 = none := i4.gr.th _ n5
    exact ⟨D5, _, rfl, i5.fld (f := "boxes") (v := .ref D5), q1, upd_same, i4.gr.fh.free n5, hn5, upd_at upd_same (i5.ne hn5).symm⟩
  rintro σ' H6 ⟨D5, F6, rfl, i6, q1, q3, nf5, hn5, d5⟩
  have hF6 := i6.gr.ff
  refine ⟨_, rfl, t, _, 0, _, rfl, rfl, i6.gr.fh.tup (hF6.tup h2), at0, b, rfl, ⟨_, SqL.of (i6.gr.fh _ _ (hF6 _ _ b1))⟩, fun D2 hD2 => lc_list (K := K) (a := b) (xs := bs) (LcP H6 T.boxes (fun x => some (.str x.name)) D2) (LcP.start hD2) (fun i H' _ z => SqL.of (z.same _ _ (i6.gr.fh _ _ (hF6 _ _ b1)))) ?_ ?_⟩
  · intro i v H' hi z
    obtain ⟨y, hy, hv⟩ := b2.getM hi
    obtain ⟨t1, rfl, k1⟩ := Bx.at_ hv
    exact ⟨rfl, _, rfl, t1, _, 0, _, rfl, rfl, z.same.tup (i6.gr.fh.tup (hF6.tup k1)), at0, z.put (Same.refl _) hy rfl (by omega)⟩
  intro H7 z
  rw [b2.lenM] at z
  obtain ⟨_, e7, z7⟩ := z.end_
  rw [fm_map] at z7
  have zb : T.boxes.map (fun x => V.str x.name) = (bn T.boxes).map V.str := by
    unfold bn
    rw [List.map_map]
    rfl
  rw [zb] at z7
  have hD2' : H D2 = none := i6.gr.th _ hD2
  have i7 := (i6.same e7).frz (i6.gr.fh.free hD2) z7 hD2'
  have n52 : D5 ≠ D2 := fun e => by
    rw [e, hD2] at d5
    cases d5
  have sf := Same.new (o := .lst ((bn T.boxes).map V.str)) (i6.gr.fh.free hD2)
  have nf5' : upd F6 D2 (.lst ((bn T.boxes).map V.str)) D5 = none := by
    rw [upd_ne n52]
    exact nf5
  refine ⟨D2, rfl, ⟨_, SqL.of z7⟩, for_list (K := K) (a := D2) (xs := (bn T.boxes).map V.str) (fun i σ H' => ∃ (y : Option V), σ = [some (.ref x), some (.ref t), y, none, none, none, none] ∧ Ini C dx x F0 H (upd F6 D2 (.lst ((bn T.boxes).map V.str))) H' [("hands", .ref D1), ("locks", .ref D3), ("boxes", .ref D5)] ∧ H' D5 = some (.dK (((bn T.boxes).take i).map fun x => ((Sum.inr x : Key), V.str ""))))
    ⟨none, rfl, i7, e7 _ _ d5⟩ (fun i σ H' _ ⟨_, _, j, _⟩ => SqL.of (j.gr.fh _ _ upd_same)) ?_ ?_⟩
  · rintro i v σ H' hi ⟨y, rfl, j, dd⟩
    rw [List.getElem?_map] at hi
    cases hx : (bn T.boxes)[i]? with
    | none =>
      rw [hx] at hi
      cases hi
    | some n =>
      rw [hx] at hi
      cases hi
      have hni := take_new ok.boxNd hx
      have hv0 : valV (((bn T.boxes).take i).map fun x => ((Sum.inr x : Key), V.str "")) (.inr n) = none := by
        have z := box_get { l := x, dx := dx, hl := x, ll := x, bd := x, od := x, sl := x, ld := x, yd := x, al := x, hands := [], locks := [], boxes := (bn T.boxes).take i, owners := [] } n
        rw [decide_eq_false hni] at z
        exact Option.isNone_iff_eq_none.mp (by rw [← Option.not_isSome, z]; rfl)
      refine ⟨_, rfl, _, _, _, _, _, rfl, j.at_, L.cls, L.na "boxes" (by decide +kernel), rfl, _, rfl, D5, _, rfl, DPut.k (k := .inr n) dd ?_, ?_⟩
      · rw [List.length_map, List.length_take, sizeLine_eq]
        have : (bn T.boxes).length ≤ 10 := by
          unfold bn
          rw [List.length_map]
          exact hbl
        omega
      rw [putK_none hv0]
      refine ⟨_, rfl, j.set nf5' dd hn5, ?_⟩
      rw [upd_same, List.take_succ, hx, List.map_append]
      rfl
  rintro σ H8 ⟨y, rfl, i8, d8⟩
  rw [List.length_map, List.take_length] at d8
  have i9 := i8.frz nf5' d8 hn5
  -- owners
  refine ⟨fun σ' H' => ∃ (D7 : Addr) (F1 : Hp) (y : Option V), σ' = [some (.ref x), some (.ref t), y, none, none, none, none] ∧ Ini C dx x F0 H F1 H' [("hands", .ref D1), ("locks", .ref D3), ("boxes", .ref D5), ("owners", .ref D7)] ∧ F1 D1 = some (.lst (T.hands.map fun x => V.str x.name)) ∧ F1 D3 = some (.lst ls) ∧ F1 D5 = some (.dK ((bn T.boxes).map fun x => ((Sum.inr x : Key), V.str ""))) ∧ F1 D7 = none ∧ H D7 = none ∧ H' D7 = some (.dK []), ?_, ?_⟩
  · refine fun D7 n7 => ?_
    have i10 := i9.new (o := .dK []) n7
    refine ⟨_, rfl, x, C, dx, _, rfl, i10.at_, L.cls, L.na "owners" (by decide +kernel), (by show 3 < 1000; decide), ?_⟩
    have hn7 : H D7 = none := i9.gr.th _ n7
    have s2 := Same.new (o := .dK ((bn T.boxes).map fun x => ((Sum.inr x : Key), V.str ""))) nf5'
    exact ⟨D7, _, y, rfl, i10.fld (f := "owners") (v := .ref D7), s2 _ _ (sf _ _ q1), s2 _ _ (sf _ _ q3), upd_same, i9.gr.fh.free n7, hn7, upd_at upd_same (i10.ne hn7).symm⟩
  rintro σ' H10 ⟨D7, F10, y, rfl, i10, q1, q3, q5, nf7, hn7, d7⟩
  refine ⟨fun σ' H' => ∃ (y z u r : Option V), σ' = [some (.ref x), some (.ref t), y, z, u, r, none] ∧ Ini C dx x F0 H F10 H' [("hands", .ref D1), ("locks", .ref D3), ("boxes", .ref D5), ("owners", .ref D7)] ∧ H' D7 = some (.dK ((ownL T.hands).map fun p => ((Sum.inr p.1 : Key), V.str p.2))), ?_, ?_⟩
  · have hF10 := i10.gr.ff
    refine ⟨_, rfl, t, _, 2, _, rfl, rfl, i10.gr.fh.tup (hF10.tup h2), rfl, h, rfl, ⟨_, SqL.of (i10.gr.fh _ _ (hF10 _ _ g1))⟩, for_list (K := K) (a := h) (xs := hs) (fun i σ H' => ∃ (y z u r : Option V), σ = [some (.ref x), some (.ref t), y, z, u, r, none] ∧ Ini C dx x F0 H F10 H' [("hands", .ref D1), ("locks", .ref D3), ("boxes", .ref D5), ("owners", .ref D7)] ∧ H' D7 = some (.dK ((ownL (T.hands.take i)).map fun p => ((Sum.inr p.1 : Key), V.str p.2))))
      ⟨y, none, none, none, rfl, i10, d7⟩ (fun i σ H' _ ⟨_, _, _, _, _, j, _⟩ => SqL.of (j.gr.fh _ _ (hF10 _ _ g1))) ?_ ?_⟩
    · rintro i v σ H' hi ⟨y, z, u, r, rfl, j, dd⟩
      obtain ⟨hh, ehh, hv⟩ := g2.getM hi
      have hm := List.mem_of_getElem? ehh
      have hol := ok.ol hh hm
      obtain ⟨t1, o, rr, rfl, k1, k2, k3⟩ := Hnd.at_ hv
      obtain ⟨ob, os, rfl, o1, o2⟩ := k2.lst_inv
      refine ⟨t1, _, rfl, j.gr.fh.tup (hF10.tup k1), rfl, _, _, rfl, _, _, rfl, _, _, rfl, rfl, ?_⟩
      refine ⟨_, rfl, ob, rfl, ⟨_, SqL.of (j.gr.fh _ _ (hF10 _ _ o1))⟩, for_list (K := K) (a := ob) (xs := os) (fun k σ H' => ∃ (r : Option V), σ = [some (.ref x), some (.ref t), some (.str hh.name), some (.ref ob), some rr, r, none] ∧ Ini C dx x F0 H F10 H' [("hands", .ref D1), ("locks", .ref D3), ("boxes", .ref D5), ("owners", .ref D7)] ∧ H' D7 = some (.dK ((ownL (T.hands.take i) ++ (hh.owns.take k).map fun b => (b.name, hh.name)).map fun p => ((Sum.inr p.1 : Key), V.str p.2))))
        ⟨r, rfl, j, ?_⟩ (fun i σ H' _ ⟨_, _, j, _⟩ => SqL.of (j.gr.fh _ _ (hF10 _ _ o1))) ?_ ?_⟩
      · show _ = some (HO.dK ((ownL (T.hands.take i) ++ []).map _))
        rw [List.append_nil]
        exact dd
      · rintro k v σ H2 hk ⟨r', rfl, j2, dd2⟩
        obtain ⟨bx, hbx, hv2⟩ := o2.getM hk
        obtain ⟨t2, rfl, k4⟩ := Bx.at_ hv2
        have hnew : bx.name ∉ (ownL (T.hands.take i) ++ (hh.owns.take k).map fun b => (b.name, hh.name)).map (·.1) := by
          have hsplit : T.hands = T.hands.take (i + 1) ++ T.hands.drop (i + 1) := (List.take_append_drop _ _).symm
          have e1 : ownL T.hands = ownL (T.hands.take (i + 1)) ++ ownL (T.hands.drop (i + 1)) := by
            have z : ownL T.hands = ownL (T.hands.take (i + 1) ++ T.hands.drop (i + 1)) := congrArg ownL hsplit
            rw [z]
            unfold ownL
            rw [List.map_append, List.flatten_append]
          have nd := ok.ownNd
          rw [e1, ownL_take ehh, List.map_append, List.map_append] at nd
          have nd2 := (List.nodup_append.mp nd).1
          have e2 : hh.owns = hh.owns.take k ++ hh.owns.drop k := (List.take_append_drop _ _).symm
          intro hmem
          rw [List.map_append] at hmem
          have hbm : bx.name ∈ (hh.owns.map fun b => (b.name, hh.name)).map (·.1) := by
            rw [List.map_map]
            exact List.mem_map.mpr ⟨bx, List.mem_of_getElem? hbx, rfl⟩
          rcases List.mem_append.mp hmem with z | z
          · exact (List.nodup_append.mp nd2).2.2 _ z _ hbm rfl
          · have nd3 := (List.nodup_append.mp nd2).2.1
            rw [List.map_map] at nd3 z
            have hg : (hh.owns.map ((fun p : Str × Str => p.1) ∘ fun b => (b.name, hh.name)))[k]? = some bx.name := by
              rw [List.getElem?_map, hbx]
              rfl
            refine take_new nd3 hg ?_
            rw [← List.map_take]
            exact z
        have hv0 : valV ((ownL (T.hands.take i) ++ (hh.owns.take k).map fun b => (b.name, hh.name)).map fun p => ((Sum.inr p.1 : Key), V.str p.2)) (.inr bx.name) = none := by
          have z := val_lkp (g := fun x : Str => (Sum.inr x : Key)) (fun _ _ e => Sum.inr.inj e) V.str bx.name (ownL (T.hands.take i) ++ (hh.owns.take k).map fun b => (b.name, hh.name))
          rw [lkp_none.mpr hnew] at z
          exact z
        refine ⟨_, rfl, _, rfl, _, _, _, _, _, rfl, j2.at_, L.cls, L.na "owners" (by decide +kernel), rfl, _, rfl, t2, _, 0, _, rfl, rfl, j2.gr.fh.tup (hF10.tup k4), at0, D7, _, rfl, DPut.k (k := .inr bx.name) dd2 ?_, ?_⟩
        · have := ownL_len ok i
          rw [List.length_map, List.length_append, List.length_map, List.length_take, sizeLine_eq]
          omega
        rw [putK_none hv0]
        refine ⟨_, rfl, j2.set nf7 dd2 hn7, ?_⟩
        rw [upd_same, List.take_succ, hbx, List.map_append, List.map_append, List.map_append, List.map_append, List.append_assoc]
        rfl
      · rintro σ H2 ⟨r', rfl, j2, dd2⟩
        rw [o2.lenM, List.take_length] at dd2
        refine ⟨_, _, _, _, rfl, j2, ?_⟩
        rw [ownL_take ehh]
        exact dd2
    · rintro σ H' ⟨y, z, u, r, rfl, j, dd⟩
      rw [g2.lenM, List.take_length] at dd
      exact ⟨_, _, _, _, rfl, j, dd⟩
  rintro σ' H11 ⟨y, z, u, r, rfl, i11, d11⟩
  have i12 := i11.frz nf7 d11 hn7
  have sf7 := Same.new (o := .dK ((ownL T.hands).map fun p => ((Sum.inr p.1 : Key), V.str p.2))) nf7
  refine ⟨Nat.zero_le _, fun S1 nS1 => ?_⟩
  have i13 := i12.new (o := .lst []) nS1
  refine ⟨_, rfl, x, C, dx, _, rfl, i13.at_, L.cls, L.na "steps" (by decide +kernel), (by show 4 < 1000; decide), ?_⟩
  have i14 : Ini C dx x F0 H _ _ [("hands", V.ref D1), ("locks", V.ref D3), ("boxes", V.ref D5), ("owners", V.ref D7), ("steps", V.ref S1)] := i13.fld (f := "steps") (v := .ref S1)
  refine fun S2 nS2 => ?_
  have i15 := i14.new (o := .dT []) nS2
  refine ⟨_, rfl, x, C, dx, _, rfl, i15.at_, L.cls, L.na "labels" (by decide +kernel), (by show 5 < 1000; decide), ?_⟩
  have i16 : Ini C dx x F0 H _ _ [("hands", V.ref D1), ("locks", V.ref D3), ("boxes", V.ref D5), ("owners", V.ref D7), ("steps", V.ref S1), ("labels", V.ref S2)] := i15.fld (f := "labels") (v := .ref S2)
  refine fun S3 nS3 => ?_
  have i17 := i16.new (o := .dT []) nS3
  refine ⟨_, rfl, x, C, dx, _, rfl, i17.at_, L.cls, L.na "says" (by decide +kernel), (by show 6 < 1000; decide), ?_⟩
  have i18 : Ini C dx x F0 H _ _ [("hands", V.ref D1), ("locks", V.ref D3), ("boxes", V.ref D5), ("owners", V.ref D7), ("steps", V.ref S1), ("labels", V.ref S2), ("says", V.ref S3)] := i17.fld (f := "says") (v := .ref S3)
  refine ⟨Nat.zero_le _, fun S4 nS4 => ?_⟩
  have i19 := i18.new (o := .lst []) nS4
  refine ⟨_, rfl, x, C, dx, _, rfl, i19.at_, L.cls, L.na "asked" (by decide +kernel), (by show 7 < 1000; decide), ?_⟩
  have i20 : Ini C dx x F0 H _ _ [("hands", V.ref D1), ("locks", V.ref D3), ("boxes", V.ref D5), ("owners", V.ref D7), ("steps", V.ref S1), ("labels", V.ref S2), ("says", V.ref S3), ("asked", V.ref S4)] := i19.fld (f := "asked") (v := .ref S4)
  refine ⟨_, rfl, x, C, dx, _, rfl, i20.at_, L.cls, L.na "hand" (by decide +kernel), (by show 8 < 1000; decide), ?_⟩
  have i21 : Ini C dx x F0 H _ _ [("hands", V.ref D1), ("locks", V.ref D3), ("boxes", V.ref D5), ("owners", V.ref D7), ("steps", V.ref S1), ("labels", V.ref S2), ("says", V.ref S3), ("asked", V.ref S4), ("hand", V.str "")] := i20.fld (f := "hand") (v := .str "")
  refine ⟨_, rfl, x, C, dx, _, rfl, i21.at_, L.cls, L.na "many" (by decide +kernel), (by show 9 < 1000; decide), ?_⟩
  have i22 : Ini C dx x F0 H _ _ [("hands", V.ref D1), ("locks", V.ref D3), ("boxes", V.ref D5), ("owners", V.ref D7), ("steps", V.ref S1), ("labels", V.ref S2), ("says", V.ref S3), ("asked", V.ref S4), ("hand", V.str ""), ("many", V.int 0)] := i21.fld (f := "many") (v := .int 0)
  have z1 : H S1 = none := i12.gr.th _ nS1
  have z2 : H S2 = none := i14.gr.th _ nS2
  have z3 : H S3 = none := i16.gr.th _ nS3
  have z4 : H S4 = none := i18.gr.th _ nS4
  have n1 : x ≠ S1 := i12.ne z1
  have n2 : x ≠ S2 := i12.ne z2
  have n3 : x ≠ S3 := i12.ne z3
  have n4 : x ≠ S4 := i12.ne z4
  -- the new ones are not one another
  have n12 : S1 ≠ S2 := fun e => by
    rw [← e, upd_ne n1.symm, upd_same] at nS2
    cases nS2
  have n13 : S1 ≠ S3 := fun e => by
    rw [← e, upd_ne n1.symm, upd_ne n12, upd_ne n1.symm, upd_same] at nS3
    cases nS3
  have n14 : S1 ≠ S4 := fun e => by
    rw [← e, upd_ne n1.symm, upd_ne n13, upd_ne n1.symm, upd_ne n12, upd_ne n1.symm, upd_same] at nS4
    cases nS4
  have n23 : S2 ≠ S3 := fun e => by
    rw [← e, upd_ne n2.symm, upd_same] at nS3
    cases nS3
  have n24 : S2 ≠ S4 := fun e => by
    rw [← e, upd_ne n2.symm, upd_ne n23, upd_ne n2.symm, upd_same] at nS4
    cases nS4
  have n34 : S3 ≠ S4 := fun e => by
    rw [← e, upd_ne n3.symm, upd_same] at nS4
    cases nS4
  have hhn : T.hands.map (fun x => V.str x.name) = T.hn.map V.str := by
    unfold Tree.hn
    rw [List.map_map]
    rfl
  rw [hhn] at q1
  have hlk : ls = T.locks.map V.str := l2.strs
  rw [hlk] at q3
  have f1 : upd F10 D7 (.dK ((ownL T.hands).map fun p => ((Sum.inr p.1 : Key), V.str p.2))) S1 = none := i12.gr.fh.free nS1
  have f2 : upd F10 D7 (.dK ((ownL T.hands).map fun p => ((Sum.inr p.1 : Key), V.str p.2))) S2 = none := i14.gr.fh.free nS2
  have f3 : upd F10 D7 (.dK ((ownL T.hands).map fun p => ((Sum.inr p.1 : Key), V.str p.2))) S3 = none := i16.gr.fh.free nS3
  have f4 : upd F10 D7 (.dK ((ownL T.hands).map fun p => ((Sum.inr p.1 : Key), V.str p.2))) S4 = none := i18.gr.fh.free nS4
  refine post { l := x, dx := dx, hl := D1, ll := D3, bd := D5, od := D7, sl := S1, ld := S2, yd := S3, al := S4, hands := T.hn, locks := T.locks, boxes := bn T.boxes, owners := ownL T.hands }
    { hand := "", many := 0, steps := [], labels := [], says := [], asked := [], bud := 0 } _ _ rfl rfl rfl rfl rfl rfl rfl rfl rfl rfl ?_ i22.gr ?_
  · refine ⟨i22.gr.fh, i22.at_, i22.nf, sf7 _ _ q1, sf7 _ _ q3, sf7 _ _ q5, upd_same, ⟨[], ?_, .nil⟩, f1, Nat.zero_le _, (fun _ h => nomatch h), ?_, f2, Nat.zero_le _, ?_, f3, Nat.zero_le _, (fun _ h => nomatch h), List.nodup_nil, ⟨[], ?_, .nil⟩, f4, Nat.zero_le _, (fun _ h => nomatch h), n14, n23, (fun h => nomatch h), (fun h => nomatch h)⟩
    · show _ = some (HO.lst [])
      rw [upd_ne n1.symm, upd_ne n1.symm, upd_ne n1.symm, upd_ne n14, upd_ne n1.symm, upd_ne n13, upd_ne n1.symm, upd_ne n12, upd_ne n1.symm, upd_same]
    · show _ = some (HO.dT [])
      rw [upd_ne n2.symm, upd_ne n2.symm, upd_ne n2.symm, upd_ne n24, upd_ne n2.symm, upd_ne n23, upd_ne n2.symm, upd_same]
    · show _ = some (HO.dT [])
      rw [upd_ne n3.symm, upd_ne n3.symm, upd_ne n3.symm, upd_ne n34, upd_ne n3.symm, upd_same]
    · show _ = some (HO.lst [])
      rw [upd_ne n4.symm, upd_ne n4.symm, upd_ne n4.symm, upd_same]
  · rintro b (rfl | rfl | rfl | rfl | rfl | h)
    · exact .inl rfl
    · exact .inr z1
    · exact .inr z2
    · exact .inr z3
    · exact .inr z4
    · exact nomatch h
end
end Ca
namespace Ca
open PySem L2
theorem layC_lbs {S : SRel} : ∀ {rs : List Row} {p q m : Int} {st : List Stp} {lb : List (Str × Int)} {m' : Int}, LayC S rs p q m st lb m' → lb.map (·.1) = lbs rs
  | [], _, _, _, _, _, _, h => by rw [h.2.1]; rfl
  | r :: rs, p, q, m, st, lb, m', h => by
    unfold LayC at h
    by_cases hm : r.mark = true
    · rw [if_pos hm] at h
      obtain ⟨lb', h1, h2⟩ := h
      rw [h1, List.map_append, layC_lbs h2]
      cases r <;> first | rfl | cases hm
    · rw [if_neg hm] at h
      have e : lbs (r :: rs) = lbs rs := by cases r <;> first | rfl | exact absurd rfl hm
      rw [e]
      by_cases hs : stm rs = []
      · rw [if_pos hs] at h
        obtain ⟨st1, st2, m1, h1, h2, h3⟩ := h
        exact layC_lbs h3
      · rw [if_neg hs] at h
        obtain ⟨st1, st2, m1, h1, h2, h3⟩ := h
        exact layC_lbs h3
theorem layR_lbs {h : Str} {S : SRel} {rs : List Row} {p q m : Int} {st : List Stp} {lb : List (Str × Int)} {m' : Int} (k : LayR h S rs p q m st lb m') : lb.map (·.1) = lbs rs := by
  unfold LayR at k
  by_cases hs : stm rs = []
  · rw [if_pos hs] at k
    obtain ⟨st', _, k⟩ := k
    exact layC_lbs k
  · rw [if_neg hs] at k
    exact layC_lbs k
/-! ### how many places -/
def MB (S : SRel) (b : Nat) (r : Row) : Prop := ∀ p q m st m', S r p q m st m' → m ≤ m' ∧ m' ≤ m + b
theorem layC_mb {S : SRel} {b : Nat} : ∀ {rs : List Row} {p q m : Int} {st : List Stp} {lb : List (Str × Int)} {m' : Int}, (∀ x ∈ rs, x.mark = false → MB S b x) → LayC S rs p q m st lb m' → m ≤ m' ∧ m' ≤ m + (rs.length * (b + 1) : Nat)
  | [], _, _, _, _, _, _, _, h => by
    rw [h.2.2]
    exact ⟨Int.le_refl _, by omega⟩
  | r :: rs, p, q, m, st, lb, m', hb, h => by
    unfold LayC at h
    have hl : (r :: rs).length * (b + 1) = rs.length * (b + 1) + (b + 1) := by rw [List.length_cons, Nat.succ_mul]
    have hb' : ∀ x ∈ rs, x.mark = false → MB S b x := fun x hx => hb x (List.mem_cons_of_mem _ hx)
    rw [hl]
    by_cases hm : r.mark = true
    · rw [if_pos hm] at h
      obtain ⟨lb', h1, h2⟩ := h
      have := layC_mb hb' h2
      omega
    · rw [if_neg hm] at h
      have hr := hb r List.mem_cons_self (by cases e : r.mark with | true => exact absurd e hm | false => rfl)
      by_cases hs : stm rs = []
      · rw [if_pos hs] at h
        obtain ⟨st1, st2, m1, h1, h2, h3⟩ := h
        have := layC_mb hb' h3
        have := hr _ _ _ _ _ h2
        omega
      · rw [if_neg hs] at h
        obtain ⟨st1, st2, m1, h1, h2, h3⟩ := h
        have := layC_mb hb' h3
        have := hr _ _ _ _ _ h2
        omega
theorem layR_mb {h : Str} {S : SRel} {b : Nat} {rs : List Row} {p q m : Int} {st : List Stp} {lb : List (Str × Int)} {m' : Int} (hb : ∀ x ∈ rs, x.mark = false → MB S b x) (k : LayR h S rs p q m st lb m') : m ≤ m' ∧ m' ≤ m + (rs.length * (b + 1) : Nat) := by
  unfold LayR at k
  by_cases hs : stm rs = []
  · rw [if_pos hs] at k
    obtain ⟨st', _, k⟩ := k
    exact layC_mb hb k
  · rw [if_neg hs] at k
    exact layC_mb hb k
theorem layW_mb {h : Str} {S : SRel} {b : Nat} : ∀ {ws : List (List Row)} {p q m : Int} {st : List Stp} {m' : Int}, (∀ a ∈ ws, a.length ≤ 4 ∧ ∀ x ∈ a, x.mark = false → MB S b x) → LayW h S ws p q m st m' → m ≤ m' ∧ m' ≤ m + (ws.length * (4 * (b + 1)) : Nat)
  | [], _, _, _, _, _, _, k => by
    rw [k.2]
    exact ⟨Int.le_refl _, by omega⟩
  | a :: ws, p, q, m, st, m', hb, k => by
    obtain ⟨st1, st2, m1, h1, h2, h3⟩ := k
    have hl : (a :: ws).length * (4 * (b + 1)) = ws.length * (4 * (b + 1)) + 4 * (b + 1) := by rw [List.length_cons, Nat.succ_mul]
    have ha := hb a List.mem_cons_self
    have z1 := layR_mb ha.2 h2
    have z2 := layW_mb (fun x hx => hb x (List.mem_cons_of_mem _ hx)) h3
    have z3 : a.length * (b + 1) ≤ 4 * (b + 1) := Nat.mul_le_mul_right _ ha.1
    rw [hl]
    omega
def mbd : Nat → Nat
  | 0 => 0
  | n + 1 => 5 + 20 * (mbd n + 1)
theorem layS_mb {E : En} {h : Str} {num : Int} : ∀ (n : Nat) (r : Row), r.Ok E n → MB (LayS h num n) (mbd n) r
  | 0, _, ok => ok.elim
  | n + 1, .set ss, ok => fun p q m st m' k => by
    obtain ⟨ss', _, _, e⟩ := k
    rw [e]
    exact ⟨Int.le_refl _, by omega⟩
  | n + 1, .wait _, ok => fun p q m st m' k => by
    rw [k.2]
    exact ⟨Int.le_refl _, by omega⟩
  | n + 1, .take _, ok => fun p q m st m' k => by
    rw [k.2]
    exact ⟨Int.le_refl _, by omega⟩
  | n + 1, .give _, ok => fun p q m st m' k => by
    rw [k.2]
    exact ⟨Int.le_refl _, by omega⟩
  | n + 1, .iff r a b, ok => fun p q m st m' k => by
    have ha : a.length * (mbd n + 1) ≤ 4 * (mbd n + 1) := Nat.mul_le_mul_right _ ok.2.1
    have hb : b.length * (mbd n + 1) ≤ 4 * (mbd n + 1) := Nat.mul_le_mul_right _ ok.2.2.2.1
    have hm : mbd (n + 1) = 5 + 20 * (mbd n + 1) := rfl
    unfold LayS at k
    by_cases e : b = []
    · rw [if_pos e] at k
      obtain ⟨st', _, k⟩ := k
      have := layR_mb (fun x hx _ => layS_mb n x (ok.2.2.1 x hx)) k
      omega
    · rw [if_neg e] at k
      obtain ⟨st1, st2, m1, _, k1, k2⟩ := k
      have := layR_mb (fun x hx _ => layS_mb n x (ok.2.2.1 x hx)) k1
      have := layR_mb (fun x hx _ => layS_mb n x (ok.2.2.2.2 x hx)) k2
      omega
  | n + 1, .whl r a, ok => fun p q m st m' k => by
    have ha : a.length * (mbd n + 1) ≤ 4 * (mbd n + 1) := Nat.mul_le_mul_right _ ok.2.1
    have hm : mbd (n + 1) = 5 + 20 * (mbd n + 1) := rfl
    obtain ⟨st', _, k⟩ := k
    have := layR_mb (fun x hx _ => layS_mb n x (ok.2.2 x hx)) k
    omega
  | n + 1, .rounds j a, ok => fun p q m st m' k => by
    have hm : mbd (n + 1) = 5 + 20 * (mbd n + 1) := rfl
    have hl : ((List.replicate j.toNat a).flatten).length ≤ 12 := by
      have e : ((List.replicate j.toNat a).flatten).length = j.toNat * a.length := by simp
      rw [e]
      have h0 := ok.1
      have h3 := ok.2.1
      have : j.toNat * a.length ≤ 3 * 4 := Nat.mul_le_mul (by omega) ok.2.2.1
      omega
    have ha : ((List.replicate j.toNat a).flatten).length * (mbd n + 1) ≤ 12 * (mbd n + 1) := Nat.mul_le_mul_right _ hl
    have := layR_mb (fun x hx _ => by
      obtain ⟨l1, hl1, hx1⟩ := List.mem_flatten.mp hx
      rw [(List.mem_replicate.mp hl1).2] at hx1
      exact layS_mb n x (ok.2.2.2 x hx1)) k
    omega
  | n + 1, .either ws, ok => fun p q m st m' k => by
    have hm : mbd (n + 1) = 5 + 20 * (mbd n + 1) := rfl
    obtain ⟨st', _, k⟩ := k
    have z := layW_mb (b := mbd n) (fun a ha => ⟨(ok.2.2 a ha).1, fun x hx _ => layS_mb n x ((ok.2.2 a ha).2 x hx)⟩) k
    have ha : ws.length * (4 * (mbd n + 1)) ≤ 5 * (4 * (mbd n + 1)) := Nat.mul_le_mul_right _ ok.2.1
    have := ok.2.1
    omega
  | _ + 1, .label _, ok => ok.elim
  | _ + 1, .say _, ok => fun p q m st m' k => k.elim
  | _ + 1, .skip, ok => ok.elim
theorem mb_rows {E : En} {h : Str} {num p q m : Int} {rs : List Row} {st : List Stp} {lb : List (Str × Int)} {m' : Int} (hl : rs.length ≤ 12) (ok : ∀ x ∈ rs, x.mark = false → x.Ok E 3) (k : LayR h (LayS h num 3) rs p q m st lb m') : m ≤ m' ∧ m' ≤ m + 150000 := by
  have z := layR_mb (fun x hx hm => layS_mb 3 x (ok x hx hm)) k
  have e : mbd 3 = 10525 := by decide
  have u : rs.length * (mbd 3 + 1) ≤ 12 * (mbd 3 + 1) := Nat.mul_le_mul_right _ hl
  rw [e] at z u
  omega
theorem layH_ms : ∀ {hs : List Hnd} {k : Nat} {st : List Stp} {lb : List ((Str × Str) × Int)} {ms : List (Str × Int)}, (∀ h ∈ hs, ∃ rs E, h.rows = [.label "lab"] ++ rs ++ [.label "fin"] ∧ rs.length ≤ 10 ∧ ∀ x ∈ rs, Row.Ok E 3 x) → LayH hs k st lb ms → ms.length = hs.length ∧ ms.map (·.1) = hs.map Hnd.name ∧ ∀ p ∈ ms, 2 ≤ p.2 ∧ p.2 ≤ 200000
  | [], _, _, _, _, _, h => by
    rw [h.2.2]
    exact ⟨rfl, rfl, fun _ h => nomatch h⟩
  | hd :: hs, k, st, lb, ms, hr, hl => by
    obtain ⟨st1, lb1, m1, st2, lb2, ms2, e1, e2, e3, k1, k2⟩ := hl
    obtain ⟨i1, i2, i3⟩ := layH_ms (fun x hx => hr x (List.mem_cons_of_mem _ hx)) k2
    obtain ⟨rs, E, er, rl, ok⟩ := hr hd List.mem_cons_self
    have z := mb_rows (E := E) (by rw [er, List.length_append, List.length_append]; show 1 + rs.length + 1 ≤ 12; omega) (fun x hx hm => by
      rw [er] at hx
      rcases List.mem_append.mp hx with hx | hx
      · rcases List.mem_append.mp hx with hx | hx
        · rw [List.mem_singleton.mp hx] at hm
          cases hm
        · exact ok x hx
      · rw [List.mem_singleton.mp hx] at hm
        cases hm) k1
    rw [e3]
    refine ⟨congrArg (· + 1) i1, congrArg (hd.name :: ·) i2, fun p hp => ?_⟩
    rcases List.mem_cons.mp hp with rfl | hp
    · exact ⟨z.1, by show m1 ≤ 200000; have := z.2; omega⟩
    · exact i3 p hp
end Ca
namespace Ca
open PySem L2
abbrev s_lay_out : Stmt := top 38
abbrev N_lay_out : List Str := ["tree", "places", "steps", "laying", "hands", "name", "owns", "rows", "done", "annotation", "many", "place", "hand", "start", "guard", "sets", "to"]
theorem sc_lay_out : FnScope N_lay_out ["tree"] (defScope s_lay_out) := ⟨rfl, rfl, rfl, by decide +kernel, rfl, by decide +kernel, by decide +kernel⟩
-- cells: ['laying']  slots: 0=tree 1=places 2=steps 3=laying 4=hands 5=name 6=owns 7=rows 8=done 9=annotation 10=many 11=place 12=hand 13=start 14=guard 15=sets 16=to
section
variable {P : Program} {w : World} {K : PySem.W.Frag} {mg : Str → Option Value} {base : Heap} {C : Addr}
theorem lkp_of {α β : Type} [DecidableEq α] : ∀ {l : List (α × β)} {x : α} {y : β}, (l.map (·.1)).Nodup → (x, y) ∈ l → lkp l x = some y
  | [], _, _, _, h => nomatch h
  | p :: r, x, y, nd, h => by
    rw [List.map_cons, List.nodup_cons] at nd
    unfold lkp
    rw [List.find?_cons]
    rcases List.mem_cons.mp h with e | h
    · rw [← e]
      simp
    · have ne : p.1 ≠ x := fun e => nd.1 (e ▸ List.mem_map.mpr ⟨(x, y), h, rfl⟩)
      rw [decide_eq_false ne]
      exact lkp_of nd.2 h
theorem hn_sub : ∀ hs : List Hnd, List.Sublist (hs.map Hnd.name) (nmL hs)
  | [] => List.Sublist.slnil
  | h :: hs => by
    have e2 : nmL (h :: hs) = h.name :: (bn h.owns ++ nmL hs) := by
      unfold nmL
      rw [List.map_cons, List.flatten_cons]
      rfl
    rw [e2]
    exact List.Sublist.cons_cons _ ((hn_sub hs).trans (List.sublist_append_right _ _))
theorem Tree.Ok.hnNd {T : Tree} (o : T.Ok) : T.hn.Nodup := by
  have z := o.nd
  unfold Tree.names at z
  exact (List.nodup_append.mp z).2.1.sublist (hn_sub T.hands)
theorem mem_ownL {hs : List Hnd} {h : Hnd} {b : Bx} (hh : h ∈ hs) (hb : b ∈ h.owns) : (b.name, h.name) ∈ ownL hs :=
  List.mem_flatten.mpr ⟨_, List.mem_map.mpr ⟨h, hh, rfl⟩, List.mem_map.mpr ⟨b, hb, rfl⟩⟩
theorem enOk_of {T : Tree} {c : Lc} {h : Hnd} {i : Nat} {E : En} (o : T.Ok) (c1 : c.hands = T.hn) (c2 : c.locks = T.locks) (c3 : c.boxes = bn T.boxes) (c4 : c.owners = ownL T.hands) (hi : T.hands[i]? = some h) (e : EnT T h E) : EnOk c h.name ((i : Int) + 1) E where
  mine := fun x hx => by
    rw [c3, c4]
    rcases e.mine x hx with z | z
    · exact .inl z
    · obtain ⟨b, hb, rfl⟩ := List.mem_map.mp z
      exact .inr (lkp_of o.ownNd (mem_ownL (List.mem_of_getElem? hi) hb))
  locks := fun x hx => by rw [c2]; exact e.locks x hx
  hands := by rw [c1]; exact e.hands
  all_ := fun x hx => by
    rw [c2, c3, c4]
    exact e.all_ x hx
  nd := by rw [c1]; exact o.hnNd
  at_ := ⟨i, by rw [c1]; unfold Tree.hn; rw [List.getElem?_map, hi]; rfl, rfl⟩
def spLayOut (K : PySem.W.Frag) : Sp := Sp1 fun tree H Q => ∃ (F : Hp) (T : Tree), Same F H ∧ Da K F tree T.d ∧ T.Ok ∧
  ∀ F' (a : Addr) (x y : V) H' (pg : Pg), Gr Non F H F' H' → SqT K F' a [x, y] → Da K F' x pg.d → LaidAll T pg → pg.steps.length ≤ 16000000 → Q (.ref a) H'
theorem lbs_app (a b : List Row) : lbs (a ++ b) = lbs a ++ lbs b := by
  unfold lbs
  exact List.filterMap_append
theorem lbs_lab {E : En} {rs : List Row} (h : ∀ x ∈ rs, Row.Ok E 3 x) : lbs ([Row.label "lab"] ++ rs ++ [Row.label "fin"]) = [("lab" : Str), ("fin" : Str)] := by
  rw [lbs_app, lbs_app, lbs_ok h]
  rfl
theorem stp_at {F : Hp} {v : V} {s : Stp} (h : Da K F v s.d) : ∃ t g ss, v = .ref t ∧ SqT K F t [.str s.hand, .int s.frm, g, ss, .int s.to] ∧ Da K F g s.guard.d ∧ Da K F ss (.tuple (s.sets.map sd)) := by
  obtain ⟨a, x, y, z, u, r, rfl, h1, h2, h3, h4, h5, h6⟩ := h.tup5
  cases h2.str_inv
  cases h3.int_inv
  cases h6.int_inv
  exact ⟨a, z, u, rfl, h1, h4, h5⟩
/-- the labels of the hands -/
theorem layH_labs : ∀ {hs : List Hnd} {k : Nat} {st : List Stp} {lb : List ((Str × Str) × Int)} {ms : List (Str × Int)}, (∀ h ∈ hs, ∃ rs E, h.rows = [.label "lab"] ++ rs ++ [.label "fin"] ∧ ∀ x ∈ rs, Row.Ok E 3 x) → LayH hs k st lb ms → ∀ h ∈ hs.map Hnd.name, ∀ l : Str, (l = "lab" ∨ l = "fin") → (h, l) ∈ lb.map (·.1)
  | [], _, _, _, _, _, _, h, hh, _, _ => nomatch hh
  | hd :: hs, k, st, lb, ms, hr, hl, h, hh, l, el => by
    obtain ⟨st1, lb1, m1, st2, lb2, ms2, e1, e2, e3, k1, k2⟩ := hl
    rw [e2, List.map_append]
    rcases List.mem_cons.mp hh with e | hh
    · refine List.mem_append_left _ ?_
      obtain ⟨rs, E, er, ok⟩ := hr hd List.mem_cons_self
      have z := layR_lbs k1
      rw [er, lbs_lab ok] at z
      have hm : l ∈ lb1.map (·.1) := by
        rw [z]
        rcases el with e | e
        · rw [e]
          exact List.mem_cons_self
        · rw [e]
          exact List.mem_cons_of_mem _ List.mem_cons_self
      obtain ⟨p, hp, ep⟩ := List.mem_map.mp hm
      rw [List.map_map]
      exact List.mem_map.mpr ⟨p, hp, by rw [e, ← ep]; rfl⟩
    · exact List.mem_append_right _ (layH_labs (fun x hx => hr x (List.mem_cons_of_mem _ hx)) k2 h hh l el)
theorem ok_lay_out (F : FunAt K mg "lay_out" s_lay_out) (G : Glb K mg) (L : LCls K C) (c_want_unlike : Cal P w K mg base "want_unlike" 1 ["tree"] (spUnlike K)) (c_counted : Cal P w K mg base "counted" 12 ["tree"] (spCounted K)) (c_Laying : Mak P w K mg base "Laying" C 1 ["self", "tree"] (spInit K C))
    (c_begin_hand : Met P w K mg base C "begin_hand" 1 ["self", "name"] (spBegin K C)) (c_lay_rows : Cal P w K mg base "lay_rows" 15 ["laying", "rows", "start", "to"] (spRowsL K C 3)) (c_want_labels : Cal P w K mg base "want_labels" 1 ["laying"] (spWantLabs K C))
    (c_placed : Cal P w K mg base "placed" 4 ["remark", "laying"] (spPlaced K C 3)) (c_said : Cal P w K mg base "said" 4 ["laying", "hand", "place"] (spSaid K C)) (c_all_boxes : Cal P w K mg base "all_boxes" 1 ["tree"] (spAllB K)) :
    Cal P w K mg base "lay_out" 16 ["tree"] (spLayOut K) := by
  refine F.cal sc_lay_out Sp1.len (fun _ _ _ _ _ _ us hl => match us, hl with | [_], _ => rfl) fun f cdv A outer s H vs Q E hr h => ?_
  have nd := sc_lay_out.nd
  have hu := hu_of hr
  obtain ⟨t_MOST_PLACES, m_MOST_PLACES⟩ := G.MOST_PLACES
  obtain ⟨t_MOST_STEPS, m_MOST_STEPS⟩ := G.MOST_STEPS
  have m_range := G.range
  have m_tuple := G.tuple
  refine ⟨_, (pss_cons (ps_expr (pe_cal c_want_unlike hr rfl (pa_cons (pv 0) pa_nil)))
    (pss_cons (ps_asg (pe_cal c_counted hr rfl (pa_cons (pv 0) pa_nil)) (pg_tup rfl (pgs_cons (pg_name (i := 1) nd rfl (Or.inl rfl)) (pgs_cons (pg_name (i := 2) nd rfl (Or.inl rfl)) pgs_nil))))
    (pss_cons (ps_if (pt_cmpR op_gt (pv 1) (pe_glob (v := .int 24) rfl m_MOST_PLACES ⟨_, rfl⟩) (nomark _)) pss_never pss_nil)
    (pss_cons (ps_if (pt_cmpR op_gt (pv 2) (pe_glob (v := .int 40) rfl m_MOST_STEPS ⟨_, rfl⟩) (nomark _)) pss_never pss_nil)
    (pss_cons (ps_set (i := 3) nd rfl (Or.inr rfl) (pe_mak c_Laying hr rfl (pa_cons (pv 0) pa_nil)))
    (Evl.pss_cut (ps_set (i := 4) nd rfl (Or.inl rfl) (pe_lst pa_nil))
    (Evl.pss_cut (ps_for PassesOwn.never rfl (pi_list (pe_ix ix_tup (pv 0) pe_int (fun _ _ => rfl))) (pg_tup rfl (pgs_cons (pg_name (i := 5) nd rfl (Or.inl rfl)) (pgs_cons (pg_name (i := 6) nd rfl (Or.inl rfl)) (pgs_cons (pg_name (i := 7) nd rfl (Or.inl rfl)) pgs_nil))))
      (pss_cons (ps_expr (pe_calm c_begin_hand hr (pv 3) (pa_cons (pv 5) pa_nil)))
      (pss_cons (ps_expr (pe_cal c_lay_rows hr rfl (pa_cons (pv 3) (pa_cons (pv 7) (pa_cons pe_int (pa_cons pe_int pa_nil))))))
      (pss_one (ps_expr (pe_bm PySem.F.plainAttrs_list PySem.F.slot_list_append PySem.F.type_list_append mt_append (pv 4) (pa_cons (pe_tup (pa_cons (pv 5) (pa_cons (pe_fld (pv 3) rfl) pa_nil))) pa_nil)))))))
    (pss_cons (ps_expr (pe_cal c_want_labels hr rfl (pa_cons (pv 3) pa_nil)))
    (Evl.pss_cut (ps_setLc (i := 8) rfl nd rfl rfl (sw_true rfl rfl rfl (by decide +kernel)) (own := [("hand", 12), ("start", 13), ("guard", 14), ("sets", 15), ("to", 16)]) (g := (gTup K 5 (gCons (gName 12) (gCons (gName 13) (gCons (gName 14) (gCons (gName 15) (gCons (gName 16) gNil))))))) (tt := tYes) (pi_list (pe_fld (pv 3) rfl)) (blkOk_by (own := [("hand", 12), ("start", 13), ("guard", 14), ("sets", 15), ("to", 16)]) (N := N_lay_out) (sc := defScope s_lay_out) (by decide +kernel)) (fun _ _ _ _ _ => (pg_tup rfl (pgs_cons (pg_name (i := 12) nd rfl (Or.inl rfl)) (pgs_cons (pg_name (i := 13) nd rfl (Or.inl rfl)) (pgs_cons (pg_name (i := 14) nd rfl (Or.inl rfl)) (pgs_cons (pg_name (i := 15) nd rfl (Or.inl rfl)) (pgs_cons (pg_name (i := 16) nd rfl (Or.inl rfl)) pgs_nil))))))) (fun _ _ _ _ _ => pts_nil) (fun _ _ _ _ _ => (pe_tup (pa_cons (pv 12) (pa_cons (pv 13) (pa_cons (pe_cal c_placed hr rfl (pa_cons (pv 14) (pa_cons (pv 3) pa_nil))) (pa_cons (pv 15) (pa_cons (pv 16) pa_nil))))))))
    (pss_cons (ps_set (i := 9) nd rfl (Or.inl rfl) pe_dnewT)
    (Evl.pss_cut (ps_for PassesOwn.never rfl (pi_list (pv 4)) (pg_tup rfl (pgs_cons (pg_name (i := 5) nd rfl (Or.inl rfl)) (pgs_cons (pg_name (i := 10) nd rfl (Or.inl rfl)) pgs_nil)))
      (pss_one (ps_for PassesOwn.never rfl (pi_range1 rfl m_range (pa_cons (pv 10) pa_nil)) (pg_name (i := 11) nd rfl (Or.inl rfl))
        (pss_one (ps_dput hu (pv 9) (pe_tup (pa_cons (pv 5) (pa_cons (pv 11) pa_nil))) (pe_cal c_said hr rfl (pa_cons (pv 3) (pa_cons (pv 5) (pa_cons (pv 11) pa_nil)))) rfl)))))
    (pss_one (ps_ret (pe_tup (pa_cons (pe_tup (pa_cons (pe_cal c_all_boxes hr rfl (pa_cons (pv 0) pa_nil)) (pa_cons (pv 4) (pa_cons (pv 8) (pa_cons (pe_callTy call_tuple_of (by rfl) m_tuple (by decide +kernel) (pa_cons (pe_ix ix_tup (pv 0) pe_int (fun _ _ => rfl)) pa_nil)) pa_nil))))) (pa_cons (pv 9) pa_nil)))))))))))))))), ?_⟩
  obtain ⟨tree, rfl, F0, T, hF, h1, ok, post⟩ := h
  obtain ⟨t, b, l, h, bs, ls, hs, rfl, h2, b1, b2, l1, l2, g1, g2⟩ := Tree.at_ h1
  have hhl := ok.hl
  refine ⟨_, rfl, _, rfl, T, h1.mono hF, ok, fun H1 e1 => ?_⟩
  refine ⟨_, rfl, _, rfl, T, h1.mono (hF.trans e1), ok, fun p H2 hp e2 hp2 => ?_⟩
  refine ⟨p, _, rfl, SqT.of hp2, rfl, _, _, rfl, _, _, rfl, rfl, ?_⟩
  refine ⟨_, rfl, _, _, rfl, rfl, _, rfl, ite_nb (decide_eq_false (by have := ok.cnt1; omega)) ?_⟩
  refine ⟨_, rfl, _, _, rfl, rfl, _, rfl, ite_nb (decide_eq_false (by have := ok.cnt2; omega)) ?_⟩
  refine ⟨_, rfl, fun x dx hx hdx hne => ?_⟩
  have gA : Gr Non F0 H F0 (upd (upd H2 dx (.own x)) x (.ins C dx [])) := ((((Gr.refl hF).same (e1.trans e2)).new hdx).new (by rw [upd_ne hne.symm]; exact hx))
  refine ⟨_, _, rfl, F0, x, dx, T, rfl, upd_same, (hF.trans (e1.trans e2)).free hx, gA.fh, h1, ok, fun c s F4 H4 c0 c1 c2 c3 c4 s1 s2 s3 s4 s5 ly gr4 ow => ⟨rfl, ?_⟩⟩
  have hxH : H x = none := e1.free (e2.free hx)
  have gB : Gr Non F0 H F4 H4 := gA.trans' gr4 fun b e => .inr (by rw [e]; exact hxH)
  have ownN : ∀ b, own c s b → H b = none := fun b wb => by
    rcases ow b wb with e | e
    · rw [e]; exact hxH
    · exact gA.th b e
  obtain ⟨p0, hp0⟩ : ∃ p0, p0 = (T.hands.map fun h => 2 + (cntR h.rows).1).sum := ⟨_, rfl⟩
  obtain ⟨s0, hs0⟩ : ∃ s0, s0 = (T.hands.map fun h => (cntR h.rows).2).sum := ⟨_, rfl⟩
  refine ⟨fun σ' H' => ∃ HL, σ' = [some (.ref t), some (.int p0), some (.int s0), some (.ref c.l), some (.ref HL), none, none, none, none, none, none, none, none, none, none, none, none] ∧ Gr Non F0 H F4 H' ∧ LyAt K C c s F4 H' ∧ ¬ own c s HL ∧ H HL = none ∧ F4 HL = none ∧ H' HL = some (.lst []), ?_, ?_⟩
  · refine ⟨Nat.zero_le _, fun HL hHL => ?_⟩
    refine ⟨HL, ?_, gB.new hHL, ly.new hHL, ly.notOwn hHL, gB.th _ hHL, gB.fh.free hHL, upd_same⟩
    rw [hp0, hs0, c0]
    rfl
  rintro σ' H5 ⟨HL, rfl, g5, ly5, no5, hHL, fHL, dHL⟩
  -- the hands
  have hw3 : wX 3 = 172610 := by decide
  refine ⟨fun σ' H' => ∃ (F' : Hp) (s' : Ls) (acc : List V) (ms : List (Str × Int)) (y z u : Option V), σ' = [some (.ref t), some (.int p0), some (.int s0), some (.ref c.l), some (.ref HL), y, z, u, none, none, none, none, none, none, none, none, none] ∧ Gr Non F0 H F' H' ∧ LyAt K C c s' F' H' ∧ (∀ b, own c s' b → H b = none) ∧ F' HL = some (.lst acc) ∧ Das K F' acc (ms.map hmd) ∧ s'.bud ≤ 16000000 ∧ LayH T.hands 0 s'.steps s'.labels ms, ?_, ?_⟩
  · refine ⟨_, rfl, t, _, 2, _, rfl, rfl, g5.fh.tup (g5.ff.tup h2), rfl, h, rfl, ⟨_, SqL.of (g5.fh _ _ (g5.ff _ _ g1))⟩, for_list (K := K) (a := h) (xs := hs) (fun i σ H' => ∃ (F' : Hp) (s' : Ls) (acc : List V) (ms : List (Str × Int)) (y z u : Option V), σ = [some (.ref t), some (.int p0), some (.int s0), some (.ref c.l), some (.ref HL), y, z, u, none, none, none, none, none, none, none, none, none] ∧ Gr Non F0 H F' H' ∧ LyAt K C c s' F' H' ∧ (∀ b, own c s' b → H b = none) ∧ ¬ own c s' HL ∧ F' HL = none ∧ H' HL = some (.lst acc) ∧ Das K F' acc (ms.map hmd) ∧ ms.length ≤ i ∧
        s'.bud ≤ i * 2100000 ∧ (∀ p ∈ s'.labels, p.1.1 ∈ T.hn.take i) ∧ ∀ st lb ms', LayH (T.hands.drop i) i st lb ms' → LayH T.hands 0 (s'.steps ++ st) (s'.labels ++ lb) (ms ++ ms'))
      ⟨F4, s, [], [], none, none, none, rfl, g5, ly5, ownN, no5, fHL, dHL, .nil, Nat.zero_le _, by omega, (fun p hp => by rw [s2] at hp; exact absurd hp List.not_mem_nil), (fun st lb ms' k => by rw [s1, s2]; exact k)⟩ (fun i σ H' _ ⟨_, _, _, _, _, _, _, _, g, _⟩ => SqL.of (g.fh _ _ (g.ff _ _ g1))) ?_ ?_⟩
    · rintro i v σ H' hi ⟨F', s', acc, ms, y, z, u, rfl, g, ly6, own6, no6, f6, d6, da6, ml6, bu6, la6, hk⟩
      obtain ⟨hh, ehh, hv⟩ := g2.getM hi
      have hm := List.mem_of_getElem? ehh
      have hilt := (List.getElem?_eq_some_iff.mp ehh).1
      obtain ⟨rs, E1, er, hrl, rok, ent⟩ := ok.rows hh hm
      have en := enOk_of ok c1 c2 c3 c4 ehh ent
      obtain ⟨t1, o, r, rfl, k1, k2, k3⟩ := Hnd.at_ hv
      have hrlen : hh.rows.length ≤ 12 := by
        rw [er, List.length_append, List.length_append]
        show 1 + rs.length + 1 ≤ 12
        omega
      have hco : hh.rows.length * wX 3 ≤ 12 * wX 3 := Nat.mul_le_mul_right _ hrlen
      rw [hw3] at hco
      have hdrop : T.hands.drop i = hh :: T.hands.drop (i + 1) := by
        rw [List.drop_eq_getElem_cons hilt]
        congr 1
        exact (List.getElem?_eq_some_iff.mp ehh).2
      have hhn : T.hn[i]? = some hh.name := by
        unfold Tree.hn
        rw [List.getElem?_map, ehh]
        rfl
      refine ⟨t1, _, rfl, g.fh.tup (g.ff.tup k1), rfl, _, _, rfl, _, _, rfl, _, _, rfl, rfl, ?_⟩
      refine ⟨_, rfl, c.l, c.dx, lyF c s', rfl, ly6.at_, rfl, _, rfl, _, _, rfl, c, s', F', hh.name, rfl, ly6, rfl, fun H7 gr7 ly7 => ?_⟩
      have d7 := gr7.kp _ _ d6 no6
      refine ⟨_, rfl, _, rfl, _, _, _, _, rfl, c, _, F', hh.rows, E1, 0, 1, ((i : Int) + 1), rfl, ly7, k3.mono g.ff, rfl, rfl, ⟨by omega, by omega, fun x hx => ?_⟩, ⟨?_, fun l hl hmem => ?_⟩, en, ?_, fun F8 H8 st ys as m' lb ls8 hlay => ?_⟩
      · rw [er] at hx
        rcases List.mem_append.mp hx with hx | hx
        · rcases List.mem_append.mp hx with hx | hx
          · exact .inr ⟨by omega, _, List.mem_singleton.mp hx⟩
          · exact .inl (rok x hx)
        · exact .inr ⟨by omega, _, List.mem_singleton.mp hx⟩
      · rw [er, lbs_lab rok]
        exact (by decide +kernel : [("lab" : Str), ("fin" : Str)].Nodup)
      · obtain ⟨pp, hpp, epp⟩ := List.mem_map.mp hmem
        have z1 := la6 pp hpp
        rw [epp] at z1
        exact take_new ok.hnNd hhn z1
      · show s'.bud + (10 + hh.rows.length * wX 3) ≤ 16000000
        rw [hw3]
        omega
      have gr8 := gr7.trans ls8.1
      have d8 := gr8.kp _ _ d6 no6
      have f8 : F8 HL = none := gr8.non d6 f6
      have own8 : ∀ b, own c { s' with hand := hh.name, many := m', steps := s'.steps ++ st, labels := s'.labels ++ labH hh.name lb, says := ys, asked := as, bud := s'.bud + (10 + hh.rows.length * wX 3) } b → own c s' b ∨ H7 b = none := fun b wb => Says.own (s := { s' with hand := hh.name, many := 2 }) ls8.2.1 b wb
      have g8 : Gr Non F0 H F8 H8 := g.trans' gr8 fun b e => .inr (own6 b e)
      refine ⟨_, rfl, .inl ⟨rfl, acc, SqL.of d8⟩, _, rfl, _, rfl, c.l, C, c.dx, _, _, rfl, ls8.2.2.at_, L.cls, L.na "many" (by decide +kernel), lk_many c _, (by show 2 ≤ sizeLine; decide), fun t2 p2 => ?_⟩
      have a9 := ls8.2.2.newF (o := .tup [.str hh.name, .int m']) p2
      have g9 := g8.newF (o := .tup [.str hh.name, .int m']) p2
      have sf := Same.new (o := .tup [.str hh.name, .int m']) (ls8.2.2.fh.free p2)
      have neHL : HL ≠ t2 := ne_of_none d8 p2
      have no9 : ¬ own c { s' with hand := hh.name, many := m', steps := s'.steps ++ st, labels := s'.labels ++ labH hh.name lb, says := ys, asked := as, bud := s'.bud + (10 + hh.rows.length * wX 3) } HL := fun wb => by
        rcases own8 HL wb with e | e
        · exact no6 e
        · rw [d7] at e
          cases e
      have f9 : upd F8 t2 (.tup [.str hh.name, .int m']) HL = none := by
        rw [upd_ne neHL]
        exact f8
      have d9 : upd H8 t2 (.tup [.str hh.name, .int m']) HL = some (.lst acc) := upd_at d8 neHL
      refine ⟨HL, acc, _, rfl, rfl, d9, ?_, ?_⟩
      · have := da6.lenM
        rw [sizeLine_eq]
        omega
      refine ⟨_, _, acc ++ [.ref t2], ms ++ [(hh.name, m')], some (.str hh.name), some o, some r, rfl, g9.set f9 d9 (.inr hHL), a9.put f9 no9, fun b wb => ?_, no9, f9, upd_same, ?_, ?_, ?_, fun pp hpp => ?_, fun st2 lb2 ms2 kk => ?_⟩
      · rcases own8 b wb with e | e
        · exact own6 b e
        · exact g.th b (gr7.th b e)
      · rw [List.map_append]
        exact ((da6.mono gr8.ff).mono sf).app (.cons (.tup (SqT.of upd_same) (.cons (.str _) (.cons (.int _) .nil))) .nil)
      · rw [List.length_append]
        exact Nat.succ_le_succ ml6
      · show s'.bud + (10 + hh.rows.length * wX 3) ≤ (i + 1) * 2100000
        rw [hw3]
        omega
      · have htk : T.hn.take (i + 1) = T.hn.take i ++ [hh.name] := by rw [List.take_succ, hhn]; rfl
        rw [htk]
        rcases List.mem_append.mp hpp with z1 | z1
        · exact List.mem_append_left _ (la6 pp z1)
        · unfold labH at z1
          obtain ⟨q1, q2, q3⟩ := List.mem_map.mp z1
          rw [← q3]
          exact List.mem_append_right _ List.mem_cons_self
      · show LayH T.hands 0 (s'.steps ++ st ++ st2) (s'.labels ++ labH hh.name lb ++ lb2) (ms ++ [(hh.name, m')] ++ ms2)
        rw [List.append_assoc, List.append_assoc, List.append_assoc]
        refine hk _ _ _ ?_
        rw [hdrop]
        exact ⟨st, lb, m', st2, lb2, ms2, rfl, rfl, rfl, hlay, kk⟩
    · rintro σ H' ⟨F', s', acc, ms, y, z, u, rfl, g, ly6, own6, no6, f6, d6, da6, ml6, bu6, la6, hk⟩
      rw [g2.lenM] at bu6 hk
      have z := hk [] [] [] (by rw [List.drop_length]; exact ⟨rfl, rfl, rfl⟩)
      rw [List.append_nil, List.append_nil, List.append_nil] at z
      exact ⟨_, s', acc, ms, _, _, _, rfl, g.frz f6 d6 hHL, ly6.frz d6 f6 no6, own6, upd_same, da6.mono (Same.new f6), by omega, z⟩
  rintro σ' H6 ⟨F6, s6, acc, ms, y, z, u, rfl, g6, ly6, own6, fL, daL, bu6, hlayH⟩
  have hlabs : LabsOk c s6 := fun hn hhn l el => by
    rw [c1] at hhn
    have m := layH_labs (fun x hx => by
      obtain ⟨rs, E1, er, _, rok, _⟩ := ok.rows x hx
      exact ⟨rs, E1, er, rok⟩) hlayH hn hhn l el
    cases e : lkp s6.labels (hn, l) with
    | none => exact absurd m (lkp_none.mp e)
    | some i => exact ⟨i, rfl⟩
  refine ⟨_, rfl, _, rfl, c, s6, F6, rfl, ly6, hlabs, fun H7 e7 => ?_⟩
  have ly7 := ly6.same e7
  have g7 := g6.same e7
  obtain ⟨vs, v1, v2⟩ := ly7.sl
  -- the steps, their labels placed
  refine ⟨fun σ' H' => ∃ (F' : Hp) (D : Addr) (xs : List V), σ' = [some (.ref t), some (.int p0), some (.int s0), some (.ref c.l), some (.ref HL), y, z, u, some (.ref D), none, none, none, none, none, none, none, none] ∧ Gr Non F6 H7 F' H' ∧ F' D = some (.lst xs) ∧ Das K F' xs ((s6.steps.map (Stp.plc (lab0 s6.labels))).map Stp.d), ?_, ?_⟩
  · refine ⟨_, rfl, c.l, C, c.dx, _, _, rfl, ly7.at_, L.cls, L.na "steps" (by decide +kernel), lk_steps c _, c.sl, rfl, ⟨_, SqL.of v1⟩, fun D hD => lc_list (K := K) (a := c.sl) (xs := vs) (LcD K F6 H7 ((s6.steps.map (Stp.plc (lab0 s6.labels))).map Stp.d) D) (LcD.start ly7.fh hD)
      (fun i H' _ z => by
        obtain ⟨_, F', acc, g, _⟩ := z
        exact SqL.of (g.kp _ _ v1 fun z => z)) ?_ ?_⟩
    · rintro i v H' hi ⟨hD', F', acc, g, n', e, hd⟩
      obtain ⟨sx, hsx, hv⟩ := v2.getM hi
      obtain ⟨N, hgd⟩ := ly7.gd sx (List.mem_of_getElem? hsx)
      obtain ⟨t1, gg, ss, rfl, k1, k2, k3⟩ := stp_at hv
      refine ⟨t1, _, rfl, g.fh.tup (g.ff.tup k1), rfl, _, _, rfl, _, _, rfl, _, _, rfl, _, _, rfl, _, _, rfl, rfl, ?_⟩
      refine ⟨rfl, _, rfl, _, rfl, _, rfl, _, rfl, _, _, rfl, c, s6, F', sx.guard, N, rfl, ly7.gr g (fun _ _ z => z), k2.mono g.ff, hgd, hlabs, fun F2 y H2 g2 d2 => ?_⟩
      refine ⟨_, rfl, _, rfl, (by show 5 ≤ sizeLine; decide), fun t2 p2 => ?_⟩
      have g3 := g2.newF (o := .tup [.str sx.hand, .int sx.frm, y, ss, .int sx.to]) p2
      have sf := Same.new (o := .tup [.str sx.hand, .int sx.frm, y, ss, .int sx.to]) (g2.fh.free p2)
      refine LcD.put hD' g n' e hd g3 (d := Stp.d (sx.plc (lab0 s6.labels))) ?_ (by rw [List.getElem?_map, List.getElem?_map, hsx]; rfl) ?_
      · exact .tup (SqT.of upd_same) (.cons (.str _) (.cons (.int _) (.cons (d2.mono sf) (.cons ((k3.mono g.ff).mono (g2.ff.trans sf)) (.cons (.int _) .nil)))))
      · rw [List.length_map, List.length_map]
        have := ly7.nsl
        omega
    · intro H' z
      have e0 : vs.length = ((s6.steps.map (Stp.plc (lab0 s6.labels))).map Stp.d).length := by rw [v2.lenM, List.length_map, List.length_map]
      rw [e0] at z
      obtain ⟨F', acc, g, e1, e2, hd, _⟩ := z.end_
      exact ⟨F', D, acc, rfl, g, e2, hd⟩
  rintro σ' H8 ⟨F8, D, xs, rfl, g8, fD, hxs⟩
  have g80 := g7.trans g8
  have ly8 := ly7.gr g8 (fun _ _ z => z)
  -- annotation
  refine fun A hA => ?_
  have hAH : H A = none := g80.th _ hA
  have noA : ¬ own c s6 A := ly8.notOwn hA
  have fA : F8 A = none := g80.fh.free hA
  obtain ⟨ml, mn, mb⟩ := layH_ms (fun x hx => by
    obtain ⟨rs, E1, er, rl, rok, _⟩ := ok.rows x hx
    exact ⟨rs, E1, er, rl, rok⟩) hlayH
  have fHL8 : F8 HL = some (.lst acc) := g8.ff _ _ fL
  have daL8 := daL.mono g8.ff
  refine ⟨fun σ' H' => ∃ (F' : Hp) (y' w1 w2 : Option V), σ' = [some (.ref t), some (.int p0), some (.int s0), some (.ref c.l), some (.ref HL), y', z, u, some (.ref D), some (.ref A), w1, w2, none, none, none, none, none] ∧ Gr Non F0 H F' H' ∧ Same F8 F', ?_, ?_⟩
  · refine ⟨_, rfl, HL, rfl, ⟨_, SqL.of (Same.new hA _ _ (g80.fh _ _ fHL8))⟩, for_list (K := K) (a := HL) (xs := acc) (fun i σ H' => ∃ (F' : Hp) (kvs : List (List Key × V)) (y' w1 w2 : Option V), σ = [some (.ref t), some (.int p0), some (.int s0), some (.ref c.l), some (.ref HL), y', z, u, some (.ref D), some (.ref A), w1, w2, none, none, none, none, none] ∧ Gr Non F0 H F' H' ∧ Same F8 F' ∧ LyAt K C c s6 F' H' ∧ F' A = none ∧ H' A = some (.dT kvs) ∧ kvs.length ≤ i * 200000)
      ⟨F8, [], _, _, _, rfl, g80.new hA, Same.refl _, ly8.new hA, fA, upd_same, Nat.zero_le _⟩ (fun i σ H' _ ⟨_, _, _, _, _, _, g, e, _⟩ => SqL.of (g.fh _ _ (e _ _ fHL8))) ?_ ?_⟩
    · rintro i v σ H' hi ⟨F', kvs, y', w1, w2, rfl, g, e8, ly9, nA, dA, kl⟩
      obtain ⟨pm, hpm, hv⟩ := daL8.getM hi
      have hpmm := List.mem_of_getElem? hpm
      have hil : i < 3 := by
        have := (List.getElem?_eq_some_iff.mp hpm).1
        omega
      obtain ⟨m1, m2⟩ := mb pm hpmm
      obtain ⟨t1, xx, yy, rfl, k1, k2, k3⟩ := hv.tup2
      cases k2.str_inv
      cases k3.int_inv
      refine ⟨t1, _, rfl, g.fh.tup (e8.tup k1), rfl, _, _, rfl, _, _, rfl, rfl, ?_⟩
      refine ⟨_, rfl, pm.2, rfl, by omega, by omega, for_range (lo := 0) (n := pm.2.toNat) (fun j σ H' => ∃ (F' : Hp) (kvs : List (List Key × V)) (w2 : Option V), σ = [some (.ref t), some (.int p0), some (.int s0), some (.ref c.l), some (.ref HL), some (.str pm.1), z, u, some (.ref D), some (.ref A), some (.int pm.2), w2, none, none, none, none, none] ∧ Gr Non F0 H F' H' ∧ Same F8 F' ∧ LyAt K C c s6 F' H' ∧ F' A = none ∧ H' A = some (.dT kvs) ∧ kvs.length ≤ i * 200000 + j)
        ⟨F', kvs, w2, rfl, g, e8, ly9, nA, dA, Nat.le_trans kl (Nat.le_add_right _ _)⟩ ?_ ?_⟩
      · rintro j σ H2 hj ⟨F2, kvs2, w3, rfl, g2, e2, ly2, nA2, dA2, kl2⟩
        refine ⟨_, rfl, _, rfl, _, rfl, _, _, _, rfl, c, s6, F2, pm.1, 0 + (j : Int), rfl, ly2, rfl, rfl, hlabs, bu6, fun F3 v H3 g3 => ?_⟩
        refine ⟨_, rfl, _, rfl, _, rfl, (by show 2 ≤ sizeLine; decide), fun k hk => ?_⟩
        have dA3 := g3.kp _ _ dA2 (fun z => z)
        have nA3 := g3.non dA2 nA2
        have neA : A ≠ k := ne_of_none dA3 hk
        have dA4 : upd H3 k (.tup [.str pm.1, .int (0 + (j : Int))]) A = some (.dT kvs2) := upd_at dA3 neA
        refine ⟨A, _, rfl, DPut.t (k := [.inr pm.1, .inl (0 + (j : Int))]) dA4 upd_same ?_, ?_⟩
        · rw [sizeLine_eq]
          omega
        · have ly3 := ly2.gr g3 (fun _ _ z => z)
          refine ⟨F3, _, _, rfl, ((g2.trans g3).new hk).set nA3 dA4 (.inr hAH), e2.trans g3.ff, (ly3.new hk).put nA3 noA, nA3, upd_same, ?_⟩
          have := length_putK kvs2 [.inr pm.1, .inl (0 + (j : Int))] v
          omega
      · rintro σ H2 ⟨F2, kvs2, w3, rfl, g2, e2, ly2, nA2, dA2, kl2⟩
        exact ⟨F2, kvs2, _, _, _, rfl, g2, e2, ly2, nA2, dA2, by omega⟩
    · rintro σ H' ⟨F', kvs, y', w1, w2, rfl, g, e8, ly9, nA, dA, kl⟩
      exact ⟨F', _, _, _, rfl, g, e8⟩
  · rintro σ' H' ⟨F', y', w1, w2, rfl, g, e8⟩
    have t9 := g.ff.tup h2
    refine ⟨_, rfl, _, rfl, F', T, g.fh, h1.mono g.ff, ok, fun F2 v H2 gr2 dv => ?_⟩
    have gg := g.trans gr2
    refine ⟨_, rfl, _, rfl, _, rfl, t, _, 1, _, rfl, rfl, gg.fh.tup (gg.ff.tup h2), at1, l, ls, rfl, .inl ⟨SqL.of (gg.fh _ _ (gg.ff _ _ l1)), fun q1 hq1 => ?_⟩⟩
    have g10 := gg.newF (o := .tup ls) hq1
    have sf1 := Same.new (o := .tup ls) (gg.fh.free hq1)
    refine ⟨(by show 4 ≤ sizeLine; decide), fun q2 hq2 => ?_⟩
    have g11 := g10.newF (o := .tup [v, .ref HL, .ref D, .ref q1]) hq2
    have sf2 := Same.new (o := .tup [v, .ref HL, .ref D, .ref q1]) (g10.fh.free hq2)
    refine ⟨_, rfl, (by show 2 ≤ sizeLine; decide), fun q3 hq3 => ?_⟩
    have g12 := g11.newF (o := .tup [.ref q2, .ref A]) hq3
    have sf3 := Same.new (o := .tup [.ref q2, .ref A]) (g11.fh.free hq3)
    have s29 : Same F8 (upd (upd (upd F2 q1 (.tup ls)) q2 (.tup [v, .ref HL, .ref D, .ref q1])) q3 (.tup [.ref q2, .ref A])) := (((e8.trans gr2.ff).trans sf1).trans sf2).trans sf3
    refine post _ q3 _ _ _ ⟨T.bos, ms, s6.steps.map (Stp.plc (lab0 s6.labels)), T.locks⟩ g12 (SqT.of upd_same) ?_ ⟨rfl, rfl, s6.steps, s6.labels, hlayH, rfl⟩ (by rw [List.length_map]; exact Nat.le_trans ly6.nsl bu6)
    refine .tup (SqT.of (sf3 _ _ upd_same)) (.cons (dv.mono ((sf1.trans sf2).trans sf3)) (.cons (.lst (s29 _ _ fHL8) (daL8.mono s29)) (.cons (.lst (s29 _ _ fD) (hxs.mono s29)) (.cons (.tup (SqT.of (sf3 _ _ (sf2 _ _ upd_same))) (l2.mono g12.ff)) .nil))))
end
end Ca
namespace Ca
open PySem L2
/-! ## the machine of places and steps -/
def putB (b : Bk) (x : Str) (v : Int) : Bk := if (b.any fun p => decide (p.1 = x)) = true then b.map (fun p => if p.1 = x then (p.1, v) else p) else b ++ [(x, v)]
def setB (b : Bk) (ss : List (Str × Sm)) : Bk := ss.foldl (fun t p => putB t p.1 (p.2.val b)) b
def Pg.bn (p : Pg) : List Str := p.boxes.map Bo.name
def Pg.hn (p : Pg) : List Str := p.hands.map (·.1)
def inR (p : Pg) (t : Bk) : Bool := p.boxes.all fun b => decide (b.low ≤ lk t b.name) && decide (lk t b.name ≤ b.high)
def valuesB (p : Pg) (t : Bk) : Option (List Int) := if inR p t = true then some (p.boxes.map fun b => lk t b.name) else none
def standD (ps vs : List Int) : PyData := .tuple [.tuple (ps.map PyData.int), .tuple (vs.map PyData.int)]
def Pg.book (p : Pg) (vs : List Int) : Bk := p.bn.zip vs
def Pg.plcs (p : Pg) (ps : List Int) : Bk := p.hn.zip ps
def behind (p : Pg) (ps vs : List Int) (s : Stp) : Option (List Int × List Int) :=
  if lk (p.plcs ps) s.hand = s.frm ∧ s.guard.holds (p.book vs) (p.plcs ps) = true then (valuesB p (setB (p.book vs) s.sets)).map fun v => (p.hn.map (lk (putB (p.plcs ps) s.hand s.to)), v) else none
structure Pg.Ok (p : Pg) : Prop where
  bl : p.boxes.length ≤ 100
  hl : p.hands.length ≤ 100
  sl : p.steps.length ≤ 16000000
  bnd : p.bn.Nodup
  hnd : p.hn.Nodup
  gd : ∀ s ∈ p.steps, ∀ b ps : Bk, b.map (·.1) = p.bn → ps.map (·.1) = p.hn → s.guard.HOk b ps 3
  st : ∀ s ∈ p.steps, s.hand ∈ p.hn ∧ s.sets.length ≤ 100 ∧ ∀ q ∈ s.sets, q.1 ∈ p.bn ∧ ∀ b : Bk, b.map (·.1) = p.bn → q.2.In b
theorem bk_put (b : Bk) (x : Str) (v : Int) : bk (putB b x v) = putK (bk b) (.inr x) (.int v) := by
  unfold putB putK
  have e : ((bk b).any fun kv => decide (kv.1 = Sum.inr x)) = b.any fun p => decide (p.1 = x) := by
    unfold bk
    rw [List.any_map]
    congr 1
    funext p
    show decide ((Sum.inr p.1 : Key) = Sum.inr x) = decide (p.1 = x)
    rw [Bool.eq_iff_iff]
    simp
  rw [e]
  by_cases h : (b.any fun p => decide (p.1 = x)) = true
  · rw [if_pos h, if_pos h]
    unfold bk
    rw [List.map_map, List.map_map]
    refine List.map_congr_left fun p _ => ?_
    show (Sum.inr (if p.1 = x then (p.1, v) else p).1, V.int (if p.1 = x then (p.1, v) else p).2) = if (Sum.inr p.1 : Key) = Sum.inr x then ((Sum.inr p.1 : Key), V.int v) else (Sum.inr p.1, V.int p.2)
    by_cases hp : p.1 = x
    · rw [if_pos hp, if_pos (by rw [hp])]
    · rw [if_neg hp, if_neg (fun z => hp (Sum.inr.inj z))]
  · rw [if_neg h, if_neg h]
    unfold bk
    rw [List.map_append]
    rfl
theorem put_keys {b : Bk} {x : Str} {v : Int} (h : x ∈ b.map (·.1)) : (putB b x v).map (·.1) = b.map (·.1) := by
  unfold putB
  rw [if_pos]
  · rw [List.map_map]
    refine List.map_congr_left fun p _ => ?_
    show (if p.1 = x then (p.1, v) else p).1 = p.1
    by_cases hp : p.1 = x
    · rw [if_pos hp]
    · rw [if_neg hp]
  · obtain ⟨p, hp, e⟩ := List.mem_map.mp h
    exact List.any_eq_true.mpr ⟨p, hp, decide_eq_true e⟩
theorem setB_keys {b : Bk} : ∀ {ss : List (Str × Sm)} {t : Bk}, (∀ q ∈ ss, q.1 ∈ b.map (·.1)) → t.map (·.1) = b.map (·.1) → (ss.foldl (fun t p => putB t p.1 (p.2.val b)) t).map (·.1) = b.map (·.1)
  | [], _, _, h => h
  | q :: ss, t, hq, h => by
    show (ss.foldl _ (putB t q.1 (q.2.val b))).map (·.1) = _
    refine setB_keys (fun x hx => hq x (List.mem_cons_of_mem _ hx)) ?_
    rw [put_keys]
    · exact h
    · rw [h]
      exact hq q List.mem_cons_self
theorem zip_keys {α β : Type} : ∀ {ks : List α} {vs : List β}, vs.length = ks.length → (ks.zip vs).map (·.1) = ks
  | [], _, _ => by simp
  | _ :: _, [], h => by simp at h
  | k :: ks, v :: vs, h => by
    rw [List.zip_cons_cons, List.map_cons, zip_keys (by simpa using h)]
end Ca
namespace Ca
open PySem L2
abbrev s_book_of : Stmt := top 40
abbrev N_book_of : List Str := ["program", "stand", "box"]
theorem sc_book_of : FnScope N_book_of ["program", "stand"] (defScope s_book_of) := ⟨rfl, rfl, rfl, by decide +kernel, rfl, by decide +kernel, by decide +kernel⟩
-- cells: []  slots: 0=program 1=stand 2=box
abbrev s_places_of : Stmt := top 41
abbrev N_places_of : List Str := ["program", "stand", "hand"]
theorem sc_places_of : FnScope N_places_of ["program", "stand"] (defScope s_places_of) := ⟨rfl, rfl, rfl, by decide +kernel, rfl, by decide +kernel, by decide +kernel⟩
-- cells: []  slots: 0=program 1=stand 2=hand
abbrev s_first_stand : Stmt := top 42
abbrev N_first_stand : List Str := ["program", "hand", "box"]
theorem sc_first_stand : FnScope N_first_stand ["program"] (defScope s_first_stand) := ⟨rfl, rfl, rfl, by decide +kernel, rfl, by decide +kernel, by decide +kernel⟩
-- cells: []  slots: 0=program 1=hand 2=box
abbrev s_values_behind : Stmt := top 43
abbrev N_values_behind : List Str := ["program", "book", "sets", "then", "box", "one", "found", "name", "owner", "low", "high", "start"]
theorem sc_values_behind : FnScope N_values_behind ["program", "book", "sets"] (defScope s_values_behind) := ⟨rfl, rfl, rfl, by decide +kernel, rfl, by decide +kernel, by decide +kernel⟩
-- cells: []  slots: 0=program 1=book 2=sets 3=then 4=box 5=one 6=found 7=name 8=owner 9=low 10=high 11=start
section
variable {P : Program} {w : World} {K : PySem.W.Frag} {mg : Str → Option Value} {base : Heap} {C : Addr}
theorem Pg.at_ {F : Hp} {v : V} {p : Pg} (k : Da K F v p.d) : ∃ t b h s l bs hs ss, v = .ref t ∧ SqT K F t [.ref b, .ref h, .ref s, l] ∧ F b = some (.lst bs) ∧ Das K F bs (p.boxes.map Bo.d) ∧ F h = some (.lst hs) ∧ Das K F hs (p.hands.map hmd) ∧ F s = some (.lst ss) ∧ Das K F ss (p.steps.map Stp.d) := by
  obtain ⟨a, x, y, z, u, rfl, h1, h2, h3, h4, h5⟩ := k.tup4
  obtain ⟨b, bs, rfl, b1, b2⟩ := h2.lst_inv
  obtain ⟨h, hs, rfl, c1, c2⟩ := h3.lst_inv
  obtain ⟨s, ss, rfl, d1, d2⟩ := h4.lst_inv
  exact ⟨a, b, h, s, u, bs, hs, ss, rfl, h1, b1, b2, c1, c2, d1, d2⟩
theorem Bo.at_ {F : Hp} {v : V} {b : Bo} (h : Da K F v b.d) : ∃ t, v = .ref t ∧ SqT K F t [.str b.name, .str b.owner, .int b.low, .int b.high, .int b.start] := by
  obtain ⟨a, x, y, z, u, r, rfl, h1, h2, h3, h4, h5, h6⟩ := h.tup5
  cases h2.str_inv
  cases h3.str_inv
  cases h4.int_inv
  cases h5.int_inv
  cases h6.int_inv
  exact ⟨a, rfl, h1⟩
theorem hmd_at {F : Hp} {v : V} {p : Str × Int} (h : Da K F v (hmd p)) : ∃ t, v = .ref t ∧ SqT K F t [.str p.1, .int p.2] := by
  obtain ⟨a, x, y, rfl, h1, h2, h3⟩ := h.tup2
  cases h2.str_inv
  cases h3.int_inv
  exact ⟨a, rfl, h1⟩
theorem stand_at {F : Hp} {v : V} {ps vs : List Int} (h : Da K F v (standD ps vs)) : ∃ t a b, v = .ref t ∧ SqT K F t [.ref a, .ref b] ∧ SqT K F a (ps.map V.int) ∧ SqT K F b (vs.map V.int) := by
  obtain ⟨t, x, y, rfl, h1, h2, h3⟩ := h.tup2
  obtain ⟨a, xs, rfl, a1, a2⟩ := h2.tup_inv
  obtain ⟨b, ys, rfl, b1, b2⟩ := h3.tup_inv
  cases a2.ints
  cases b2.ints
  exact ⟨t, a, b, rfl, h1, a1, b1⟩
theorem merge_nd : ∀ {more : List (Key × V)} {acc : List (Key × V)}, ((acc ++ more).map (·.1)).Nodup → mergeK acc more = acc ++ more
  | [], acc, _ => (List.append_nil _).symm
  | p :: r, acc, nd => by
    have hn : valV acc p.1 = none := by
      unfold valV
      rw [Option.map_eq_none_iff, List.find?_eq_none]
      intro q hq e
      rw [List.map_append, List.map_cons] at nd
      exact (List.nodup_append.mp nd).2.2 q.1 (List.mem_map.mpr ⟨q, hq, rfl⟩) p.1 List.mem_cons_self (of_decide_eq_true e)
    show mergeK (putK acc p.1 p.2) r = _
    rw [putK_none hn]
    have e : acc ++ [(p.1, p.2)] ++ r = acc ++ p :: r := by simp
    rw [merge_nd (by rw [e]; exact nd), e]
theorem zip_bk {ks : List Str} {vs : List Int} (nd : ks.Nodup) (hl : vs.length = ks.length) : mergeK [] ((ks.zip (vs.map V.int)).map fun q => ((Sum.inr q.1 : Key), q.2)) = bk (ks.zip vs) := by
  have e : (ks.zip (vs.map V.int)).map (fun q => ((Sum.inr q.1 : Key), q.2)) = bk (ks.zip vs) := by
    unfold bk
    rw [List.zip_map_right, List.map_map]
    rfl
  rw [e, merge_nd]
  · rfl
  · show (bk (ks.zip vs)).map (·.1) |>.Nodup
    unfold bk
    rw [List.map_map]
    have e2 : (ks.zip vs).map ((fun x : Key × V => x.1) ∘ fun p : Str × Int => ((Sum.inr p.1 : Key), V.int p.2)) = ((ks.zip vs).map (·.1)).map Sum.inr := by
      rw [List.map_map]
      rfl
    rw [e2, zip_keys hl]
    exact List.Pairwise.map _ (fun a b h z => h (Sum.inr.inj z)) nd
def spBook (K : PySem.W.Frag) : Sp := Sp2 fun program stand H Q => ∃ (F : Hp) (p : Pg) (ps vs : List Int), Same F H ∧ Da K F program p.d ∧ p.Ok ∧ Da K F stand (standD ps vs) ∧ vs.length = p.boxes.length ∧ ∀ q H', H q = none → Same H H' → H' q = some (.dK (bk (p.book vs))) → Q (.ref q) H'
theorem ok_book (F : FunAt K mg "book_of" s_book_of) (G : Glb K mg) : Cal P w K mg base "book_of" 1 ["program", "stand"] (spBook K) := by
  refine F.cal sc_book_of Sp2.len (fun _ _ _ _ _ _ us hl => match us, hl with | [_, _], _ => rfl) fun f cdv A outer s H vs Q E hr h => ?_
  have nd := sc_book_of.nd
  have hu := hu_of hr
  have m_dict := G.dict
  have m_zip := G.zip
  refine ⟨_, (pss_one (ps_ret (pe_dictZip rfl (by rfl) m_dict (by rfl) m_zip (pa_cons (pe_lc (own := [("box", 2)]) (g := (gName 2)) (tt := tYes) rfl nd (pi_list (pe_ix ix_tup (pv 0) pe_int (fun _ _ => rfl))) (blkOk_by (own := [("box", 2)]) (N := N_book_of) (sc := defScope s_book_of) (by decide +kernel)) (fun _ _ _ _ _ => (pg_name (i := 2) nd rfl (Or.inl rfl))) (fun _ _ _ _ _ => pts_nil) (fun _ _ _ _ _ => (pe_ix (ix_tupK (K := K) rfl) (pv 2) pe_int (fun _ _ => rfl)))) (pa_cons (pe_ix ix_tup (pv 1) pe_int (fun _ _ => rfl)) pa_nil))))), ?_⟩
  obtain ⟨prog, stand, rfl, F0, p, ps, vs, hF, h1, ok, h2, hl, q⟩ := h
  obtain ⟨t, b, h, s, l, bs, hs, ss, rfl, k0, b1, b2, c1, c2, d1, d2⟩ := Pg.at_ h1
  obtain ⟨u, pa, pb, rfl, u1, u2, u3⟩ := stand_at h2
  have hbl := ok.bl
  refine ⟨_, rfl, t, _, 0, _, rfl, rfl, hF.tup k0, at0, b, rfl, ⟨_, SqL.of (hF _ _ b1)⟩, fun D hD => lc_list (K := K) (a := b) (xs := bs) (LcP H p.boxes (fun x => some (.str x.name)) D) (LcP.start hD) (fun i H' _ z => SqL.of (z.same _ _ (hF _ _ b1))) ?_ ?_⟩
  · intro i v H' hi z
    obtain ⟨x, hx, hv⟩ := b2.getM hi
    obtain ⟨t1, rfl, k1⟩ := Bo.at_ hv
    exact ⟨rfl, _, rfl, t1, _, 0, _, rfl, rfl, z.same.tup (hF.tup k1), at0, z.put (Same.refl _) hx rfl (by omega)⟩
  intro H1 z
  rw [b2.lenM] at z
  obtain ⟨z1, e1, z3⟩ := z.end_
  rw [fm_map] at z3
  have zb : p.boxes.map (fun x => V.str x.name) = p.bn.map V.str := by
    unfold Pg.bn
    rw [List.map_map]
    rfl
  rw [zb] at z3
  have hbn : p.bn.length = p.boxes.length := List.length_map _
  refine ⟨_, rfl, u, _, 1, _, rfl, rfl, e1.tup (hF.tup u1), at1, D, pb, p.bn, vs.map V.int, rfl, SqL.of z3, e1.tup (hF.tup u3), by rw [List.length_map, hl, hbn], fun r hr' => ?_⟩
  refine q r _ (e1.free hr') (e1.trans (Same.new hr')) ?_
  rw [upd_same, zip_bk ok.bnd (by rw [hl, hbn])]
  rfl
def spPlaces (K : PySem.W.Frag) : Sp := Sp2 fun program stand H Q => ∃ (F : Hp) (p : Pg) (ps vs : List Int), Same F H ∧ Da K F program p.d ∧ p.Ok ∧ Da K F stand (standD ps vs) ∧ ps.length = p.hands.length ∧ ∀ q H', H q = none → Same H H' → H' q = some (.dK (bk (p.plcs ps))) → Q (.ref q) H'
theorem ok_places (F : FunAt K mg "places_of" s_places_of) (G : Glb K mg) : Cal P w K mg base "places_of" 1 ["program", "stand"] (spPlaces K) := by
  refine F.cal sc_places_of Sp2.len (fun _ _ _ _ _ _ us hl => match us, hl with | [_, _], _ => rfl) fun f cdv A outer s H vs Q E hr h => ?_
  have nd := sc_places_of.nd
  have hu := hu_of hr
  have m_dict := G.dict
  have m_zip := G.zip
  refine ⟨_, (pss_one (ps_ret (pe_dictZip rfl (by rfl) m_dict (by rfl) m_zip (pa_cons (pe_lc (own := [("hand", 2)]) (g := (gName 2)) (tt := tYes) rfl nd (pi_list (pe_ix ix_tup (pv 0) pe_int (fun _ _ => rfl))) (blkOk_by (own := [("hand", 2)]) (N := N_places_of) (sc := defScope s_places_of) (by decide +kernel)) (fun _ _ _ _ _ => (pg_name (i := 2) nd rfl (Or.inl rfl))) (fun _ _ _ _ _ => pts_nil) (fun _ _ _ _ _ => (pe_ix (ix_tupK (K := K) rfl) (pv 2) pe_int (fun _ _ => rfl)))) (pa_cons (pe_ix ix_tup (pv 1) pe_int (fun _ _ => rfl)) pa_nil))))), ?_⟩
  obtain ⟨prog, stand, rfl, F0, p, ps, vs, hF, h1, ok, h2, hl, q⟩ := h
  obtain ⟨t, b, h, s, l, bs, hs, ss, rfl, k0, b1, b2, c1, c2, d1, d2⟩ := Pg.at_ h1
  obtain ⟨u, pa, pb, rfl, u1, u2, u3⟩ := stand_at h2
  have hbl := ok.hl
  refine ⟨_, rfl, t, _, 1, _, rfl, rfl, hF.tup k0, at1, h, rfl, ⟨_, SqL.of (hF _ _ c1)⟩, fun D hD => lc_list (K := K) (a := h) (xs := hs) (LcP H p.hands (fun x => some (.str x.1)) D) (LcP.start hD) (fun i H' _ z => SqL.of (z.same _ _ (hF _ _ c1))) ?_ ?_⟩
  · intro i v H' hi z
    obtain ⟨x, hx, hv⟩ := c2.getM hi
    obtain ⟨t1, rfl, k1⟩ := hmd_at hv
    exact ⟨rfl, _, rfl, t1, _, 0, _, rfl, rfl, z.same.tup (hF.tup k1), at0, z.put (Same.refl _) hx rfl (by omega)⟩
  intro H1 z
  rw [c2.lenM] at z
  obtain ⟨z1, e1, z3⟩ := z.end_
  rw [fm_map] at z3
  have zb : p.hands.map (fun x => V.str x.1) = p.hn.map V.str := by
    unfold Pg.hn
    rw [List.map_map]
    rfl
  rw [zb] at z3
  have hbn : p.hn.length = p.hands.length := List.length_map _
  refine ⟨_, rfl, u, _, 0, _, rfl, rfl, e1.tup (hF.tup u1), at0, D, pa, p.hn, ps.map V.int, rfl, SqL.of z3, e1.tup (hF.tup u2), by rw [List.length_map, hl, hbn], fun r hr' => ?_⟩
  refine q r _ (e1.free hr') (e1.trans (Same.new hr')) ?_
  rw [upd_same, zip_bk ok.hnd (by rw [hl, hbn])]
  rfl
def spFirst (K : PySem.W.Frag) : Sp := Sp1 fun program H Q => ∃ (F : Hp) (p : Pg), Same F H ∧ Da K F program p.d ∧ p.Ok ∧ ∀ F' v H', Gr Non F H F' H' → Da K F' v (standD (p.hands.map fun _ => 0) (p.boxes.map Bo.start)) → Q v H'
theorem das_ints {F : Hp} (zs : List Int) : Das K F (zs.map V.int) (zs.map PyData.int) := Das.of_ints zs
theorem ok_first (F : FunAt K mg "first_stand" s_first_stand) (G : Glb K mg) : Cal P w K mg base "first_stand" 1 ["program"] (spFirst K) := by
  refine F.cal sc_first_stand Sp1.len (fun _ _ _ _ _ _ us hl => match us, hl with | [_], _ => rfl) fun f cdv A outer s H vs Q E hr h => ?_
  have nd := sc_first_stand.nd
  have hu := hu_of hr
  have m_tuple := G.tuple
  refine ⟨_, (pss_one (ps_ret (pe_tup (pa_cons (pe_callTy call_tuple_of (by rfl) m_tuple (by decide +kernel) (pa_cons (pe_lc (own := [("hand", 1)]) (g := (gName 1)) (tt := tYes) rfl nd (pi_list (pe_ix ix_tup (pv 0) pe_int (fun _ _ => rfl))) (blkOk_by (own := [("hand", 1)]) (N := N_first_stand) (sc := defScope s_first_stand) (by decide +kernel)) (fun _ _ _ _ _ => (pg_name (i := 1) nd rfl (Or.inl rfl))) (fun _ _ _ _ _ => pts_nil) (fun _ _ _ _ _ => pe_int)) pa_nil)) (pa_cons (pe_callTy call_tuple_of (by rfl) m_tuple (by decide +kernel) (pa_cons (pe_lc (own := [("box", 2)]) (g := (gName 2)) (tt := tYes) rfl nd (pi_list (pe_ix ix_tup (pv 0) pe_int (fun _ _ => rfl))) (blkOk_by (own := [("box", 2)]) (N := N_first_stand) (sc := defScope s_first_stand) (by decide +kernel)) (fun _ _ _ _ _ => (pg_name (i := 2) nd rfl (Or.inl rfl))) (fun _ _ _ _ _ => pts_nil) (fun _ _ _ _ _ => (pe_ix (ix_tupK (K := K) rfl) (pv 2) pe_int (fun _ _ => rfl)))) pa_nil)) pa_nil))))), ?_⟩
  obtain ⟨prog, rfl, F0, p, hF, h1, ok, q⟩ := h
  obtain ⟨t, b, h, s, l, bs, hs, ss, rfl, k0, b1, b2, c1, c2, d1, d2⟩ := Pg.at_ h1
  have hbl := ok.bl
  have hhl := ok.hl
  refine ⟨_, rfl, t, _, 1, _, rfl, rfl, hF.tup k0, at1, h, rfl, ⟨_, SqL.of (hF _ _ c1)⟩, fun D hD => lc_list (K := K) (a := h) (xs := hs) (LcP H p.hands (fun x => some (.int 0)) D) (LcP.start hD) (fun i H' _ z => SqL.of (z.same _ _ (hF _ _ c1))) ?_ ?_⟩
  · intro i v H' hi z
    obtain ⟨x, hx, hv⟩ := c2.getM hi
    exact ⟨rfl, z.put (Same.refl _) hx rfl (by omega)⟩
  intro H1 z
  rw [c2.lenM] at z
  obtain ⟨z1, e1, z3⟩ := z.end_
  rw [fm_map] at z3
  have g1 : Gr Non F0 H F0 H1 := (Gr.refl hF).same e1
  refine ⟨D, _, rfl, .inl ⟨SqL.of z3, fun t1 p1 => ?_⟩⟩
  have g2 := g1.newF (o := .tup (p.hands.map fun _ => V.int 0)) p1
  have hk2 := g2.fh.tup (g2.ff.tup k0)
  refine ⟨_, rfl, t, _, 0, _, rfl, rfl, hk2, at0, b, rfl, ⟨_, SqL.of (g2.fh _ _ (g2.ff _ _ b1))⟩, fun D2 hD2 => lc_list (K := K) (a := b) (xs := bs) (LcP _ p.boxes (fun x => some (.int x.start)) D2) (LcP.start hD2) (fun i H' _ z => SqL.of (z.same _ _ (g2.fh _ _ (g2.ff _ _ b1)))) ?_ ?_⟩
  · intro i v H' hi z
    obtain ⟨x, hx, hv⟩ := b2.getM hi
    obtain ⟨t1, rfl, k1⟩ := Bo.at_ hv
    exact ⟨rfl, _, rfl, t1, _, 4, _, rfl, rfl, z.same.tup (g2.fh.tup (g2.ff.tup k1)), rfl, z.put (Same.refl _) hx rfl (by omega)⟩
  intro H3 z
  rw [b2.lenM] at z
  obtain ⟨z1, e3, z4⟩ := z.end_
  rw [fm_map] at z4
  have g3 := g2.same e3
  refine ⟨D2, _, rfl, .inl ⟨SqL.of z4, fun t2 p2 => ?_⟩⟩
  have g4 := g3.newF (o := .tup (p.boxes.map fun x => V.int x.start)) p2
  have sf4 := Same.new (o := .tup (p.boxes.map fun x => V.int x.start)) (g3.fh.free p2)
  refine ⟨(by show 2 ≤ sizeLine; decide), fun t3 p3 => ?_⟩
  have g5 := g4.newF (o := .tup [.ref t1, .ref t2]) p3
  have sf5 := Same.new (o := .tup [.ref t1, .ref t2]) (g4.fh.free p3)
  refine q _ _ _ g5 (.tup (SqT.of upd_same) (.cons (.tup (SqT.of (sf5 _ _ (sf4 _ _ upd_same))) ?_) (.cons (.tup (SqT.of (sf5 _ _ upd_same)) ?_) .nil)))
  · have e : p.hands.map (fun _ => V.int 0) = (p.hands.map fun _ => (0 : Int)).map V.int := by rw [List.map_map]; rfl
    rw [e]
    exact das_ints _
  · have e : p.boxes.map (fun x => V.int x.start) = (p.boxes.map Bo.start).map V.int := by rw [List.map_map]; rfl
    rw [e]
    exact das_ints _
end
end Ca
namespace Ca
open PySem L2
abbrev s_behind_step : Stmt := top 44
abbrev N_behind_step : List Str := ["program", "stand", "number", "hand", "here", "guard", "sets", "there", "places", "book", "values", "one"]
theorem sc_behind_step : FnScope N_behind_step ["program", "stand", "number"] (defScope s_behind_step) := ⟨rfl, rfl, rfl, by decide +kernel, rfl, by decide +kernel, by decide +kernel⟩
-- cells: ['places']  slots: 0=program 1=stand 2=number 3=hand 4=here 5=guard 6=sets 7=there 8=places 9=book 10=values 11=one
abbrev s_can : Stmt := top 45
abbrev N_can : List Str := ["program", "stand", "k"]
theorem sc_can : FnScope N_can ["program", "stand"] (defScope s_can) := ⟨rfl, rfl, rfl, by decide +kernel, rfl, by decide +kernel, by decide +kernel⟩
-- cells: ['program', 'stand']  slots: 0=program 1=stand 2=k
abbrev s_done : Stmt := top 46
abbrev N_done : List Str := ["program", "stand", "number"]
theorem sc_done : FnScope N_done ["program", "stand", "number"] (defScope s_done) := ⟨rfl, rfl, rfl, by decide +kernel, rfl, by decide +kernel, by decide +kernel⟩
-- cells: []  slots: 0=program 1=stand 2=number
section
variable {P : Program} {w : World} {K : PySem.W.Frag} {mg : Str → Option Value} {base : Heap} {C : Addr}
def spValues (K : PySem.W.Frag) : Sp := Sp3 fun program book sets H Q => ∃ (F : Hp) (p : Pg) (b : Bk) (a : Addr) (ss : List (Str × Sm)), Same F H ∧ Da K F program p.d ∧ p.Ok ∧ book = .ref a ∧ H a = some (.dK (bk b)) ∧ b.map (·.1) = p.bn ∧ Da K F sets (.tuple (ss.map sd)) ∧ ss.length ≤ 100 ∧ (∀ q ∈ ss, q.1 ∈ p.bn ∧ q.2.In b) ∧
  (inR p (setB b ss) = false → ∀ F' H', Gr Non F H F' H' → Q .non H') ∧ (inR p (setB b ss) = true → ∀ F' v H', Gr Non F H F' H' → Da K F' v (.tuple ((p.boxes.map fun x => lk (setB b ss) x.name).map PyData.int)) → Q v H')
theorem all_take {α : Type} {f : α → Bool} {l : List α} {i : Nat} {x : α} (h : l[i]? = some x) (k : (l.take i).all f = true) (e : f x = true) : (l.take (i + 1)).all f = true := by
  rw [List.take_succ, h, List.all_append, k]
  show (true && ([x] : List α).all f) = true
  simp [e]
theorem ok_values (F : FunAt K mg "values_behind" s_values_behind) (G : Glb K mg) (c_value : Cal P w K mg base "value" 1 ["one", "book"] (spValue K)) : Cal P w K mg base "values_behind" 2 ["program", "book", "sets"] (spValues K) := by
  refine F.cal sc_values_behind Sp3.len (fun _ _ _ _ _ _ us hl => match us, hl with | [_, _, _], _ => rfl) fun f cdv A outer s H vs Q E hr h => ?_
  have nd := sc_values_behind.nd
  have hu := hu_of hr
  have m_dict := G.dict
  have m_tuple := G.tuple
  refine ⟨_, (pss_cons (ps_set (i := 3) nd rfl (Or.inl rfl) (pe_callTy call_dictD (by rfl) m_dict (by decide +kernel) (pa_cons (pv 1) pa_nil)))
    (pss_cons (ps_for PassesOwn.never rfl (pi_tup (pv 2)) (pg_tup rfl (pgs_cons (pg_name (i := 4) nd rfl (Or.inl rfl)) (pgs_cons (pg_name (i := 5) nd rfl (Or.inl rfl)) pgs_nil)))
      (pss_one (ps_dput hu (pv 3) (pv 4) (pe_cal c_value hr rfl (pa_cons (pv 5) (pa_cons (pv 1) pa_nil))) rfl)))
    (pss_cons (ps_set (i := 6) nd rfl (Or.inl rfl) (pe_lst pa_nil))
    (pss_cons (ps_for PassesOwn.never rfl (pi_list (pe_ix ix_tup (pv 0) pe_int (fun _ _ => rfl))) (pg_tup rfl (pgs_cons (pg_name (i := 7) nd rfl (Or.inl rfl)) (pgs_cons (pg_name (i := 8) nd rfl (Or.inl rfl)) (pgs_cons (pg_name (i := 9) nd rfl (Or.inl rfl)) (pgs_cons (pg_name (i := 10) nd rfl (Or.inl rfl)) (pgs_cons (pg_name (i := 11) nd rfl (Or.inl rfl)) pgs_nil))))))
      (pss_cons (ps_if (pt_not (pt_chain op_le op_le (pv 9) (pe_dget hu (pv 3) (pv 7) (fun _ _ => rfl)) (pv 10))) (pss_one (ps_ret pe_non)) pss_nil)
      (pss_one (ps_expr (pe_bm PySem.F.plainAttrs_list PySem.F.slot_list_append PySem.F.type_list_append mt_append (pv 6) (pa_cons (pe_dget hu (pv 3) (pv 7) (fun _ _ => rfl)) pa_nil))))))
    (pss_one (ps_ret (pe_callTy call_tuple_of (by rfl) m_tuple (by decide +kernel) (pa_cons (pv 6) pa_nil)))))))), ?_⟩
  obtain ⟨prog, book, sets, rfl, F0, p, bo, a, sl, hF, h1, ok, rfl, ha, hkeys, hsets, hsl, hin, qn, qs⟩ := h
  obtain ⟨t, b, h, s, l, bs, hs, ss, rfl, k0, b1, b2, c1, c2, d1, d2⟩ := Pg.at_ h1
  obtain ⟨u, xs, rfl, u1, u2⟩ := hsets.tup_inv
  have hbl := ok.bl
  have hbnl : bo.length ≤ 100 := by
    have e := congrArg List.length hkeys
    unfold Pg.bn at e
    rw [List.length_map, List.length_map] at e
    omega
  refine ⟨_, rfl, a, bk bo, rfl, .inl ha, fun m hm => ?_⟩
  have hma : a ≠ m := ne_of_none ha hm
  have hbk : ∀ t : Bk, t.map (·.1) = p.bn → (bk t).length ≤ 100 := fun t e => by
    have e2 := congrArg List.length e
    unfold Pg.bn at e2
    rw [List.length_map, List.length_map] at e2
    unfold bk
    rw [List.length_map]
    omega
  have hkt : ∀ i, ((sl.take i).foldl (fun t p => putB t p.1 (p.2.val bo)) bo).map (·.1) = p.bn := fun i => by
    rw [setB_keys (fun q hq => by rw [hkeys]; exact (hin q (List.mem_of_mem_take hq)).1) rfl]
    exact hkeys
  refine ⟨_, rfl, u, rfl, ⟨_, (hF.trans (Same.new hm)).tup u1⟩, for_tup (K := K) (a := u) (xs := xs) (fun i σ H' => ∃ (x y : Option V), σ = [some (.ref t), some (.ref a), some (.ref u), some (.ref m), x, y, none, none, none, none, none, none] ∧ Same H H' ∧ H' m = some (.dK (bk ((sl.take i).foldl (fun t p => putB t p.1 (p.2.val bo)) bo))))
    ⟨none, none, rfl, Same.new hm, upd_same⟩ (fun i σ H' _ ⟨_, _, _, e, _⟩ => (hF.trans e).tup u1) ?_ ?_⟩
  · rintro i v σ H' hi ⟨x, y, rfl, e1, dm⟩
    obtain ⟨q, hq, hv⟩ := u2.getM hi
    obtain ⟨o1, o2⟩ := hin q (List.mem_of_getElem? hq)
    obtain ⟨t1, y1, rfl, k1, k2⟩ := sd_at hv
    refine ⟨t1, _, rfl, (hF.trans e1).tup k1, rfl, _, _, rfl, _, _, rfl, rfl, ?_⟩
    refine ⟨_, rfl, _, rfl, _, _, rfl, q.2, bo, a, k2.mono (hF.trans e1), rfl, e1 _ _ ha, o2, fun H2 e2 => ?_⟩
    refine ⟨_, rfl, _, rfl, m, _, rfl, DPut.k (k := .inr q.1) (e2 _ _ dm) ?_, ?_⟩
    · have := hbk _ (hkt i)
      rw [sizeLine_eq]
      omega
    · refine ⟨_, _, rfl, (e1.trans e2).mut hm, ?_⟩
      rw [upd_same, fold_take _ _ hq, bk_put]
  rintro σ H1 ⟨x, y, rfl, e1, dm⟩
  rw [u2.lenM, List.take_length] at dm
  have dm' : H1 m = some (.dK (bk (setB bo sl))) := dm
  have hks : (setB bo sl).map (·.1) = p.bn := by
    have z := hkt sl.length
    rw [List.take_length] at z
    exact z
  refine ⟨Nat.zero_le _, fun fo hfo => ?_⟩
  have hfm : m ≠ fo := ne_of_none dm' hfo
  have e2 := e1.trans (Same.new (o := .lst []) hfo)
  have hfoH : H fo = none := e1.free hfo
  refine ⟨_, rfl, t, _, 0, _, rfl, rfl, (hF.trans e2).tup k0, at0, b, rfl, ⟨_, SqL.of ((hF.trans e2) _ _ b1)⟩, for_list (K := K) (a := b) (xs := bs) (fun i σ H' => ∃ (n1 n2 n3 n4 n5 : Option V), σ = [some (.ref t), some (.ref a), some (.ref u), some (.ref m), x, y, some (.ref fo), n1, n2, n3, n4, n5] ∧ Same H H' ∧ H' m = some (.dK (bk (setB bo sl))) ∧ H' fo = some (.lst (((p.boxes.take i).map fun x => lk (setB bo sl) x.name).map V.int)) ∧ (p.boxes.take i).all (fun b => decide (b.low ≤ lk (setB bo sl) b.name) && decide (lk (setB bo sl) b.name ≤ b.high)) = true)
    ⟨none, none, none, none, none, rfl, e2, upd_at dm' hfm, upd_same, rfl⟩ (fun i σ H' _ ⟨_, _, _, _, _, _, e, _⟩ => SqL.of ((hF.trans e) _ _ b1)) ?_ ?_⟩
  · rintro i v σ H' hi ⟨n1, n2, n3, n4, n5, rfl, e3, dm3, df3, hall⟩
    obtain ⟨bx, hbx, hv⟩ := b2.getM hi
    have hmem := List.mem_of_getElem? hbx
    obtain ⟨t1, rfl, k1⟩ := Bo.at_ hv
    have hin2 : bx.name ∈ (setB bo sl).map (·.1) := by
      rw [hks]
      exact List.mem_map.mpr ⟨bx, hmem, rfl⟩
    have dg : DGet H' m (.str bx.name) (some (.int (lk (setB bo sl) bx.name))) := by
      have z := DGet.k (k := .inr bx.name) dm3
      rw [get_bk hin2] at z
      exact z
    refine ⟨t1, _, rfl, (hF.trans e3).tup k1, rfl, _, _, rfl, _, _, rfl, _, _, rfl, _, _, rfl, _, _, rfl, rfl, ?_⟩
    refine ⟨_, rfl, _, rfl, _, rfl, m, _, rfl, dg, _, _, rfl, rfl, _, rfl, ?_⟩
    have out : (decide (bx.low ≤ lk (setB bo sl) bx.name) && decide (lk (setB bo sl) bx.name ≤ bx.high)) = false → Q .non H' := fun e => by
      refine qn ?_ F0 H' ((Gr.refl hF).same e3)
      unfold inR
      cases e4 : p.boxes.all fun b => decide (b.low ≤ lk (setB bo sl) b.name) && decide (lk (setB bo sl) b.name ≤ b.high) with
      | false => rfl
      | true =>
        rw [List.all_eq_true] at e4
        rw [e4 bx hmem] at e
        cases e
    by_cases hlo : bx.low ≤ lk (setB bo sl) bx.name
    · refine ite_b (decide_eq_true hlo) ?_
      refine ⟨_, rfl, _, _, rfl, rfl, _, rfl, ?_⟩
      by_cases hhi : lk (setB bo sl) bx.name ≤ bx.high
      · refine ite_nb (by rw [decide_eq_true hhi]; rfl) ?_
        refine ⟨_, rfl, .inl ⟨rfl, _, SqL.of df3⟩, _, rfl, _, rfl, m, _, rfl, dg, fo, _, _, rfl, rfl, df3, ?_, ?_⟩
        · rw [List.length_map, List.length_map, List.length_take, sizeLine_eq]
          omega
        · have hfm3 : m ≠ fo := ne_kind dm3 df3 (fun z => nomatch z)
          refine ⟨_, _, _, _, _, rfl, e3.mut hfoH, upd_at dm3 hfm3, ?_, all_take hbx hall (by rw [decide_eq_true hlo, decide_eq_true hhi]; rfl)⟩
          rw [upd_same, List.take_succ, hbx, List.map_append, List.map_append]
          rfl
      · refine ite_b (by rw [decide_eq_false hhi]; rfl) ?_
        exact out (by rw [decide_eq_false hhi, Bool.and_false])
    · refine ite_nb (decide_eq_false hlo) ?_
      refine ⟨_, rfl, ?_⟩
      refine ite_b (by rfl) ?_
      exact out (by rw [decide_eq_false hlo]; rfl)
  · rintro σ H' ⟨n1, n2, n3, n4, n5, rfl, e3, dm3, df3, hall⟩
    rw [b2.lenM, List.take_length] at df3 hall
    refine ⟨_, rfl, fo, _, rfl, .inl ⟨SqL.of df3, fun q1 hq1 => ?_⟩⟩
    exact qs hall _ _ _ (((Gr.refl hF).same e3).newF hq1) (.tup (SqT.of upd_same) (das_ints _))
def spBehind (K : PySem.W.Frag) : Sp := Sp3 fun program stand number H Q => ∃ (F : Hp) (p : Pg) (ps vs : List Int) (k : Nat) (s : Stp), Same F H ∧ Da K F program p.d ∧ p.Ok ∧ Da K F stand (standD ps vs) ∧ ps.length = p.hands.length ∧ vs.length = p.boxes.length ∧ number = .int k ∧ p.steps[k]? = some s ∧
  (behind p ps vs s = none → ∀ F' H', Gr Non F H F' H' → Q .non H') ∧ ∀ ps' vs', behind p ps vs s = some (ps', vs') → ∀ F' v H', Gr Non F H F' H' → Da K F' v (standD ps' vs') → Q v H'
theorem ok_behind (F : FunAt K mg "behind_step" s_behind_step) (G : Glb K mg) (c_places_of : Cal P w K mg base "places_of" 1 ["program", "stand"] (spPlaces K)) (c_book_of : Cal P w K mg base "book_of" 1 ["program", "stand"] (spBook K))
    (c_holds : Cal P w K mg base "holds" 4 ["remark", "book", "places"] (spHolds K 3)) (c_values_behind : Cal P w K mg base "values_behind" 2 ["program", "book", "sets"] (spValues K)) : Cal P w K mg base "behind_step" 5 ["program", "stand", "number"] (spBehind K) := by
  refine F.cal sc_behind_step Sp3.len (fun _ _ _ _ _ _ us hl => match us, hl with | [_, _, _], _ => rfl) fun f cdv A outer s H vs Q E hr h => ?_
  have nd := sc_behind_step.nd
  have hu := hu_of hr
  have m_tuple := G.tuple
  refine ⟨_, (pss_cons (ps_asg (pe_ix ix_list (pe_ix ix_tup (pv 0) pe_int (fun _ _ => rfl)) (pv 2) (fun _ _ => rfl)) (pg_tup rfl (pgs_cons (pg_name (i := 3) nd rfl (Or.inl rfl)) (pgs_cons (pg_name (i := 4) nd rfl (Or.inl rfl)) (pgs_cons (pg_name (i := 5) nd rfl (Or.inl rfl)) (pgs_cons (pg_name (i := 6) nd rfl (Or.inl rfl)) (pgs_cons (pg_name (i := 7) nd rfl (Or.inl rfl)) pgs_nil)))))))
    (pss_cons (ps_set (i := 8) nd rfl (Or.inr rfl) (pe_cal c_places_of hr rfl (pa_cons (pv 0) (pa_cons (pv 1) pa_nil))))
    (pss_cons (ps_set (i := 9) nd rfl (Or.inl rfl) (pe_cal c_book_of hr rfl (pa_cons (pv 0) (pa_cons (pv 1) pa_nil))))
    (pss_cons (ps_if (PW.pt (pw_or (pt_cmpR op_ne (pe_dget hu (pv 8) (pv 3) (fun _ _ => rfl)) (pv 4) (nomark _)) (pw_or1 (pt_not (pt_val (pe_cal c_holds hr rfl (pa_cons (pv 5) (pa_cons (pv 9) (pa_cons (pv 8) pa_nil))))))))) (pss_one (ps_ret pe_non)) pss_nil)
    (pss_cons (ps_set (i := 10) nd rfl (Or.inl rfl) (pe_cal c_values_behind hr rfl (pa_cons (pv 0) (pa_cons (pv 9) (pa_cons (pv 6) pa_nil)))))
    (pss_cons (ps_if (pt_cmp (pc_isN (pv 10))) (pss_one (ps_ret pe_non)) pss_nil)
    (pss_cons (ps_dput hu (pv 8) (pv 3) (pv 7) rfl)
    (pss_one (ps_ret (pe_tup (pa_cons (pe_callTy call_tuple_of (by rfl) m_tuple (by decide +kernel) (pa_cons (pe_lc (own := [("one", 11)]) (g := (gName 11)) (tt := tYes) rfl nd (pi_list (pe_ix ix_tup (pv 0) pe_int (fun _ _ => rfl))) (blkOk_by (own := [("one", 11)]) (N := N_behind_step) (sc := defScope s_behind_step) (by decide +kernel)) (fun _ _ _ _ _ => (pg_name (i := 11) nd rfl (Or.inl rfl))) (fun _ _ _ _ _ => pts_nil) (fun _ _ _ _ _ => (pe_dget hu (pv 8) (pe_ix (ix_tupK (K := K) rfl) (pv 11) pe_int (fun _ _ => rfl)) (fun _ _ => rfl)))) pa_nil)) (pa_cons (pv 10) pa_nil)))))))))))), ?_⟩
  obtain ⟨prog, stand, num, rfl, F0, p, ps, vs, k, s, hF, h1, ok, h2, hpl, hvl, rfl, hk, qn, qs⟩ := h
  have h1' := h1
  have h2' := h2
  obtain ⟨t, b, h, sl, l, bs, hs, ss, rfl, k0, b1, b2, c1, c2, d1, d2⟩ := Pg.at_ h1
  obtain ⟨v0, hv0, dv0⟩ := d2.get (i := k) (d := s.d) (by rw [List.getElem?_map, hk]; rfl)
  have hmem := List.mem_of_getElem? hk
  obtain ⟨o1, o2, o3⟩ := ok.st s hmem
  obtain ⟨t1, g, se, rfl, k1, k2, k3⟩ := stp_at dv0
  have hhn : p.hn.length = p.hands.length := List.length_map _
  have hbn : p.bn.length = p.boxes.length := List.length_map _
  have hkb : (p.book vs).map (·.1) = p.bn := zip_keys (by rw [hvl, hbn])
  have hkp : (p.plcs ps).map (·.1) = p.hn := zip_keys (by rw [hpl, hhn])
  refine ⟨_, rfl, t, _, 2, _, rfl, rfl, hF.tup k0, rfl, _, rfl, sl, ss, k, .ref t1, rfl, rfl, SqL.of (hF _ _ d1), atI_nat hv0, ?_⟩
  refine ⟨t1, _, rfl, hF.tup k1, rfl, _, _, rfl, _, _, rfl, _, _, rfl, _, _, rfl, _, _, rfl, rfl, ?_⟩
  refine ⟨_, rfl, _, rfl, _, _, rfl, F0, p, ps, vs, hF, h1', ok, h2', hpl, fun P1 H1 hP1 e1 hP => ?_⟩
  refine ⟨_, rfl, _, rfl, _, _, rfl, F0, p, ps, vs, hF.trans e1, h1', ok, h2', hvl, fun B1 H2 hB1 e2 hB => ?_⟩
  have hP2 := e2 _ _ hP
  have gr2 : Gr Non F0 H F0 H2 := (Gr.refl hF).same (e1.trans e2)
  have dgh : DGet H2 P1 (.str s.hand) (some (.int (lk (p.plcs ps) s.hand))) := by
    have z := DGet.k (k := .inr s.hand) hP2
    rw [get_bk (by rw [hkp]; exact o1)] at z
    exact z
  refine ⟨_, rfl, _, rfl, P1, _, rfl, dgh, _, rfl, rfl, _, rfl, ?_⟩
  by_cases e0 : lk (p.plcs ps) s.hand = s.frm
  · refine ite_nb (by rw [e0]; show (!decide (V.int s.frm = V.int s.frm)) = false; rw [decide_eq_true rfl]; rfl) ?_
    refine ⟨_, rfl, _, rfl, _, rfl, _, _, _, rfl, s.guard, p.book vs, p.plcs ps, B1, P1, (k2.mono (hF.trans (e1.trans e2))), rfl, hB, rfl, hP2, ok.gd s hmem _ _ hkb hkp, fun H3 e3 => ?_⟩
    refine ⟨_, rfl, ?_⟩
    have gr3 := gr2.same e3
    cases eh : s.guard.holds (p.book vs) (p.plcs ps) with
    | false =>
      refine ite_b (by rfl) ?_
      exact qn (by unfold behind; rw [if_neg (fun z => by rw [eh] at z; exact absurd z.2 (by decide))]) _ _ gr3
    | true =>
      refine ite_nb (by rfl) ?_
      have bh : behind p ps vs s = (valuesB p (setB (p.book vs) s.sets)).map fun v => (p.hn.map (lk (putB (p.plcs ps) s.hand s.to)), v) := by
        unfold behind
        rw [if_pos ⟨e0, eh⟩]
      refine ⟨_, rfl, _, rfl, _, rfl, _, _, _, rfl, F0, p, p.book vs, B1, s.sets, gr3.fh, h1', ok, rfl, e3 _ _ hB, hkb, k3, o2, fun q hq => ⟨(o3 q hq).1, (o3 q hq).2 _ hkb⟩, fun hno F4 H4 gr4 => ?_, fun hyes F4 v H4 gr4 dv => ?_⟩
      · refine ⟨_, rfl, _, rfl, ?_⟩
        refine ite_b (by decide) ?_
        refine qn ?_ _ _ (gr3.trans gr4)
        rw [bh]
        unfold valuesB
        rw [if_neg (by rw [hno]; decide)]
        rfl
      · obtain ⟨va, xs, rfl, _, _⟩ := dv.tup_inv
        refine ⟨_, rfl, _, rfl, ?_⟩
        refine ite_nb (by rfl) ?_
        have gr5 := gr3.trans gr4
        have hP4 := gr4.kp _ _ (e3 _ _ hP2) (fun z => z)
        have hPn : H P1 = none := hP1
        have fP : F4 P1 = none := gr4.non (e3 _ _ hP2) (hF.free hP1)
        have hlen : (bk (p.plcs ps)).length ≤ 100 := by
          have e := congrArg List.length hkp
          have := ok.hl
          unfold bk
          rw [List.length_map] at e ⊢
          omega
        refine ⟨_, rfl, _, rfl, _, rfl, P1, _, rfl, DPut.k (k := .inr s.hand) hP4 (by rw [sizeLine_eq]; omega), ?_⟩
        rw [← bk_put]
        have gr6 := gr5.set (o := .dK (bk (putB (p.plcs ps) s.hand s.to))) fP hP4 (.inr hPn)
        have dP6 : upd H4 P1 (.dK (bk (putB (p.plcs ps) s.hand s.to))) P1 = some (.dK (bk (putB (p.plcs ps) s.hand s.to))) := upd_same
        have hk6 : (putB (p.plcs ps) s.hand s.to).map (·.1) = p.hn := by
          rw [put_keys (by rw [hkp]; exact o1), hkp]
        refine ⟨_, rfl, t, _, 1, _, rfl, rfl, gr6.fh.tup (gr6.ff.tup k0), at1, h, rfl, ⟨_, SqL.of (gr6.fh _ _ (gr6.ff _ _ c1))⟩, fun D hD => lc_list (K := K) (a := h) (xs := hs) (LcP (upd H4 P1 (.dK (bk (putB (p.plcs ps) s.hand s.to)))) p.hands (fun x => some (.int (lk (putB (p.plcs ps) s.hand s.to) x.1))) D) (LcP.start hD) (fun i H' _ z => SqL.of (z.same _ _ (gr6.fh _ _ (gr6.ff _ _ c1)))) ?_ ?_⟩
        · intro i v H' hi z
          obtain ⟨x, hx, hv⟩ := c2.getM hi
          obtain ⟨t2, rfl, k4⟩ := hmd_at hv
          have dg6 : DGet H' P1 (.str x.1) (some (.int (lk (putB (p.plcs ps) s.hand s.to) x.1))) := by
            have z1 := DGet.k (k := .inr x.1) (z.same _ _ dP6)
            rw [get_bk (by rw [hk6]; exact List.mem_map.mpr ⟨x, List.mem_of_getElem? hx, rfl⟩)] at z1
            exact z1
          have := ok.hl
          exact ⟨rfl, _, rfl, _, rfl, t2, _, 0, _, rfl, rfl, z.same.tup (gr6.fh.tup (gr6.ff.tup k4)), at0, P1, _, rfl, dg6, z.put (Same.refl _) hx rfl (by omega)⟩
        intro H7 z
        rw [c2.lenM] at z
        obtain ⟨z1, e7, z3⟩ := z.end_
        rw [fm_map] at z3
        have gr7 := gr6.same e7
        refine ⟨D, _, rfl, .inl ⟨SqL.of z3, fun t3 p3 => ?_⟩⟩
        have gr8 := gr7.newF (o := .tup (p.hands.map fun x => V.int (lk (putB (p.plcs ps) s.hand s.to) x.1))) p3
        have sf8 := Same.new (o := .tup (p.hands.map fun x => V.int (lk (putB (p.plcs ps) s.hand s.to) x.1))) (gr7.fh.free p3)
        refine ⟨_, rfl, (by show 2 ≤ sizeLine; decide), fun t4 p4 => ?_⟩
        have gr9 := gr8.newF (o := .tup [.ref t3, .ref va]) p4
        have sf9 := Same.new (o := .tup [.ref t3, .ref va]) (gr8.fh.free p4)
        refine qs _ _ (by rw [bh]; unfold valuesB; rw [if_pos hyes]; rfl) _ _ _ gr9 ?_
        refine .tup (SqT.of upd_same) (.cons (.tup (SqT.of (sf9 _ _ upd_same)) ?_) (.cons ((dv.mono sf8).mono sf9) .nil))
        have e : p.hands.map (fun x => V.int (lk (putB (p.plcs ps) s.hand s.to) x.1)) = (p.hn.map (lk (putB (p.plcs ps) s.hand s.to))).map V.int := by
          unfold Pg.hn
          rw [List.map_map, List.map_map]
          rfl
        rw [e]
        exact das_ints _
  · refine ite_b (by show (!decide (V.int (lk (p.plcs ps) s.hand) = V.int s.frm)) = true; rw [decide_eq_false (fun z => e0 (V.int.inj z))]; rfl) ?_
    exact qn (by unfold behind; rw [if_neg (fun z => e0 z.1)]) _ _ gr2
/-- the numbers of the steps that can be taken -/
def canL (p : Pg) (ps vs : List Int) : List Nat := (List.range p.steps.length).filter fun k => ((p.steps[k]?).bind (behind p ps vs)).isSome
def spCan (K : PySem.W.Frag) : Sp := Sp2 fun program stand H Q => ∃ (F : Hp) (p : Pg) (ps vs : List Int), Same F H ∧ Da K F program p.d ∧ p.Ok ∧ Da K F stand (standD ps vs) ∧ ps.length = p.hands.length ∧ vs.length = p.boxes.length ∧
  ∀ q H', H q = none → Same H H' → H' q = some (.lst ((canL p ps vs).map fun k => V.int (k : Nat))) → Q (.ref q) H'
theorem Gr.toSame {F H F' H' : Hp} (g : Gr Non F H F' H') : Same H H' := fun b o e => g.kp b o e (fun z => z)
theorem ok_can (F : FunAt K mg "can" s_can) (G : Glb K mg) (c_behind_step : Cal P w K mg base "behind_step" 5 ["program", "stand", "number"] (spBehind K)) : Cal P w K mg base "can" 6 ["program", "stand"] (spCan K) := by
  refine F.cal sc_can Sp2.len (fun _ _ _ _ _ _ us hl => match us, hl with | [_, _], _ => rfl) fun f cdv A outer s H vs Q E hr h => ?_
  have nd := sc_can.nd
  have hu := hu_of hr
  have m_len := G.len
  have m_range := G.range
  refine ⟨_, (pss_one (ps_ret (pe_lc (own := [("k", 2)]) (g := (gName 2)) (tt := _) rfl nd (pi_range1 rfl m_range (pa_cons (pe_callB call_len_seq (by rfl) m_len (by decide +kernel) (pa_cons (pe_ix ix_tup (pv 0) pe_int (fun _ _ => rfl)) pa_nil)) pa_nil)) (blkOk_by (own := [("k", 2)]) (N := N_can) (sc := defScope s_can) (by decide +kernel)) (fun _ _ _ _ _ => (pg_name (i := 2) nd rfl (Or.inl rfl))) (fun _ _ _ _ _ => (pts_one (pt_cmp (pc_notN (pe_cal c_behind_step hr rfl (pa_cons (pv 0) (pa_cons (pv 1) (pa_cons (pv 2) pa_nil)))))))) (fun _ _ _ _ _ => (pv 2))))), ?_⟩
  obtain ⟨prog, stand, rfl, F0, p, ps, vs, hF, h1, ok, h2, hpl, hvl, q⟩ := h
  have h1' := h1
  obtain ⟨t, b, h, sl, l, bs, hs, ss, rfl, k0, b1, b2, c1, c2, d1, d2⟩ := Pg.at_ h1
  have hsl := ok.sl
  have hss : ss.length = p.steps.length := d2.lenM
  refine ⟨_, rfl, t, _, 2, _, rfl, rfl, hF.tup k0, rfl, sl, _, rfl, .inl (SqL.of (hF _ _ d1)), _, rfl, by omega, by omega, fun D hD => ?_⟩
  have hnat : ((ss.length : Nat) : Int).toNat = p.steps.length := by rw [hss]; rfl
  rw [hnat]
  refine lc_range (lo := 0) (n := p.steps.length) (LcP H (List.range p.steps.length) (fun k => if ((p.steps[k]?).bind (behind p ps vs)).isSome = true then some (.int (k : Nat)) else none) D) (LcP.start hD) ?_ ?_
  · intro i H' hi z
    obtain ⟨s, hs⟩ : ∃ s, p.steps[i]? = some s := ⟨_, List.getElem?_eq_getElem hi⟩
    have hri : (List.range p.steps.length)[i]? = some i := List.getElem?_range hi
    have hz : V.int (0 + (i : Int)) = V.int (i : Nat) := by rw [Int.zero_add]
    rw [hz]
    refine ⟨rfl, _, rfl, _, rfl, _, rfl, _, _, _, rfl, F0, p, ps, vs, i, s, hF.trans z.same, h1', ok, h2, hpl, hvl, rfl, hs, fun hn F2 H2 g2 => ?_, fun ps' vs' hs' F2 v H2 g2 dv => ?_⟩
    · refine ⟨_, rfl, ?_⟩
      refine ite_nb (by rfl) ?_
      refine z.skip g2.toSame hri ?_
      rw [hs]
      show (if (behind p ps vs s).isSome = true then _ else _) = _
      rw [hn]
      rfl
    · obtain ⟨va, _, _, rfl, _⟩ := stand_at dv
      refine ⟨_, rfl, ?_⟩
      refine ite_b (by rfl) ?_
      refine ⟨_, rfl, z.put g2.toSame hri ?_ (by rw [List.length_range]; omega)⟩
      rw [hs]
      show (if (behind p ps vs s).isSome = true then _ else _) = _
      rw [hs']
      rfl
  · intro H' z
    have e : p.steps.length = (List.range p.steps.length).length := List.length_range.symm
    have z' : LcP H (List.range p.steps.length) (fun k => if ((p.steps[k]?).bind (behind p ps vs)).isSome = true then some (V.int (k : Nat)) else none) D (List.range p.steps.length).length H' := by
      rw [← e]
      exact z
    obtain ⟨z1, z2, z3⟩ := z'.end_
    refine q D H' hD z2 ?_
    rw [z3]
    unfold canL
    congr 2
    generalize List.range p.steps.length = rl
    induction rl with
    | nil => rfl
    | cons a r ih =>
      rw [List.filterMap_cons, List.filter_cons]
      cases ((p.steps[a]?).bind (behind p ps vs)).isSome with
      | true =>
        show _ :: _ = _ :: _
        rw [ih]
      | false =>
        show _ = _
        exact ih
theorem ok_done (F : FunAt K mg "done" s_done) (G : Glb K mg) (c_behind_step : Cal P w K mg base "behind_step" 5 ["program", "stand", "number"] (spBehind K)) : Cal P w K mg base "done" 6 ["program", "stand", "number"] (spBehind K) := by
  refine F.cal sc_done Sp3.len (fun _ _ _ _ _ _ us hl => match us, hl with | [_, _, _], _ => rfl) fun f cdv A outer s H vs Q E hr h => ?_
  have nd := sc_done.nd
  have hu := hu_of hr
  refine ⟨_, (pss_one (ps_ret (pe_cal c_behind_step hr rfl (pa_cons (pv 0) (pa_cons (pv 1) (pa_cons (pv 2) pa_nil)))))), ?_⟩
  obtain ⟨prog, stand, num, rfl, h⟩ := h
  exact ⟨_, rfl, _, rfl, _, rfl, _, _, _, rfl, h⟩
end
end Ca
namespace Ca
open PySem L2
abbrev s_l_cell_at : Stmt := top 48
abbrev N_l_cell_at : List Str := ["_law_script", "_law_k"]
theorem sc_l_cell_at : FnScope N_l_cell_at ["_law_script", "_law_k"] (defScope s_l_cell_at) := ⟨rfl, rfl, rfl, by decide +kernel, rfl, by decide +kernel, by decide +kernel⟩
-- cells: []  slots: 0=_law_script 1=_law_k
abbrev s_l_state : Stmt := top 49
abbrev N_l_state : List Str := ["_law_cell", "_law_free"]
theorem sc_l_state : FnScope N_l_state ["_law_cell", "_law_free"] (defScope s_l_state) := ⟨rfl, rfl, rfl, by decide +kernel, rfl, by decide +kernel, by decide +kernel⟩
-- cells: []  slots: 0=_law_cell 1=_law_free
abbrev s_l_take : Stmt := top 50
abbrev N_l_take : List Str := ["_law_state_here", "_law_many", "_law_found"]
theorem sc_l_take : FnScope N_l_take ["_law_state_here", "_law_many"] (defScope s_l_take) := ⟨rfl, rfl, rfl, by decide +kernel, rfl, by decide +kernel, by decide +kernel⟩
-- cells: []  slots: 0=_law_state_here 1=_law_many 2=_law_found
abbrev s_l_number : Stmt := top 52
abbrev N_l_number : List Str := ["_law_state_here", "_law_most", "_law_way", "_law_found", "_law_k"]
theorem sc_l_number : FnScope N_l_number ["_law_state_here", "_law_most"] (defScope s_l_number) := ⟨rfl, rfl, rfl, by decide +kernel, rfl, by decide +kernel, by decide +kernel⟩
-- cells: []  slots: 0=_law_state_here 1=_law_most 2=_law_way 3=_law_found 4=_law_k
abbrev s_l_sum : Stmt := top 53
abbrev N_l_sum : List Str := ["_law_state_here", "_law_names", "_law_parts", "_law_name_here", "_law_times"]
theorem sc_l_sum : FnScope N_l_sum ["_law_state_here", "_law_names"] (defScope s_l_sum) := ⟨rfl, rfl, rfl, by decide +kernel, rfl, by decide +kernel, by decide +kernel⟩
-- cells: []  slots: 0=_law_state_here 1=_law_names 2=_law_parts 3=_law_name_here 4=_law_times
section
variable {P : Program} {w : World} {K : PySem.W.Frag} {mg : Str → Option Value} {base : Heap}
def spCell (K : PySem.W.Frag) : Sp := Sp2 fun script k H Q => ∃ (a : Addr) (zs : List Int) (i : Nat), script = .ref a ∧ SqL K H a (zs.map V.int) ∧ k = .int i ∧ Q (.int (zs.getD i 0)) H
theorem ok_cell (F : FunAt K mg "_law_cell_at" s_l_cell_at) (G : Glb K mg) : Cal P w K mg base "_law_cell_at" 1 ["_law_script", "_law_k"] (spCell K) := by
  refine F.cal sc_l_cell_at Sp2.len (fun _ _ _ _ _ _ us hl => match us, hl with | [_, _], _ => rfl) fun f cdv A outer s H vs Q E hr h => ?_
  have nd := sc_l_cell_at.nd
  have hu := hu_of hr
  have m_len := G.len
  refine ⟨_, (pss_cons (ps_if (pt_cmpR op_lt (pv 1) (pe_callB call_len_seq (by rfl) m_len (by decide +kernel) (pa_cons (pv 0) pa_nil)) (nomark _)) (pss_one (ps_ret (pe_ix ix_list (pv 0) (pv 1) (fun _ _ => rfl)))) pss_nil)
    (pss_one (ps_ret pe_int))), ?_⟩
  obtain ⟨script, kk, rfl, a, zs, i, rfl, ha, rfl, q⟩ := h
  refine ⟨_, rfl, _, rfl, a, _, rfl, .inl ha, _, _, rfl, rfl, _, rfl, ?_⟩
  by_cases hlt : i < zs.length
  · refine ite_b (decide_eq_true (by rw [List.length_map]; omega)) ?_
    refine ⟨_, rfl, _, rfl, a, _, _, .int (zs.getD i 0), rfl, rfl, ha, ?_, q⟩
    refine atI_nat ?_
    rw [List.getElem?_map, List.getD_eq_getElem?_getD, List.getElem?_eq_getElem hlt]
    rfl
  · refine ite_nb (decide_eq_false (by rw [List.length_map]; omega)) ?_
    have e : zs.getD i 0 = 0 := by
      rw [List.getD_eq_getElem?_getD, List.getElem?_eq_none (by omega)]
      rfl
    rw [e] at q
    exact q
/-- the law's stream of numbers stands at S -/
def Stt (S : Addr) (H : Hp) : Prop := ∃ (left : Int) (fr : Bool), H S = some (.dK [(.inr "left", .int left), (.inr "free", .bl fr)])
def spState : Sp := Sp2 fun cell free H Q => ∃ (i : Int) (b : Bool), cell = .int i ∧ free = .bl b ∧ ∀ S H', H S = none → Same H H' → Stt S H' → Q (.ref S) H'
theorem ok_state (F : FunAt K mg "_law_state" s_l_state) (G : Glb K mg) : Cal P w K mg base "_law_state" 1 ["_law_cell", "_law_free"] spState := by
  refine F.cal sc_l_state Sp2.len (fun _ _ _ _ _ _ us hl => match us, hl with | [_, _], _ => rfl) fun f cdv A outer s H vs Q E hr h => ?_
  have nd := sc_l_state.nd
  have hu := hu_of hr
  refine ⟨_, (pss_cons (ps_if (pt_val (pv 1)) (pss_one (ps_ret (pe_disp (pps_cons pe_str (pv 0) (pps_cons pe_str pe_bl pps_nil)) (by rfl) (by rfl) (fun z => by cases z) (by decide)))) pss_nil)
    (pss_one (ps_ret (pe_disp (pps_cons pe_str (pe_op op_add pe_int (pe_op op_modN (pv 0) pe_int)) (pps_cons pe_str pe_bl pps_nil)) (by rfl) (by rfl) (fun z => by cases z) (by decide))))), ?_⟩
  obtain ⟨cell, free, rfl, i, b, rfl, rfl, q⟩ := h
  refine ⟨_, rfl, _, rfl, ?_⟩
  cases b with
  | true =>
    refine ite_b rfl fun p hp => ?_
    refine ⟨_, rfl, upd_same, [(.inr "left", .int i), (.inr "free", .bl true)], rfl, (by show 2 ≤ 15; decide), ?_⟩
    exact q p _ hp ((Same.new hp).mut hp) ⟨i, true, upd_same⟩
  | false =>
    refine ite_nb rfl fun p hp => ?_
    refine ⟨_, rfl, _, _, rfl, rfl, (by show (2147483646 : Int) ≠ 0; decide), _, _, rfl, rfl, upd_same, [(.inr "left", .int (1 + i.fmod 2147483646)), (.inr "free", .bl false)], rfl, (by show 2 ≤ 15; decide), ?_⟩
    exact q p _ hp ((Same.new hp).mut hp) ⟨_, false, upd_same⟩
def spTake (K : PySem.W.Frag) : Sp := Sp2 fun st many H Q => ∃ (F : Hp) (S : Addr) (n : Int), st = .ref S ∧ Same F H ∧ F S = none ∧ Stt S H ∧ many = .int n ∧ 0 < n ∧ n < 1073741824 ∧
  ∀ H' k, Gr (fun b => b = S) F H F H' → Stt S H' → 0 ≤ k → k < n → Q (.int k) H'
theorem ok_take (F : FunAt K mg "_law_take" s_l_take) (G : Glb K mg) : Cal P w K mg base "_law_take" 1 ["_law_state_here", "_law_many"] (spTake K) := by
  refine F.cal sc_l_take Sp2.len (fun _ _ _ _ _ _ us hl => match us, hl with | [_, _], _ => rfl) fun f cdv A outer s H vs Q E hr h => ?_
  have nd := sc_l_take.nd
  have hu := hu_of hr
  refine ⟨_, (pss_cons (ps_if (pt_val (pe_dget hu (pv 0) pe_str (fun _ _ => rfl))) (pss_cons (ps_set (i := 2) nd rfl (Or.inl rfl) (pe_op op_modN (pe_dget hu (pv 0) pe_str (fun _ _ => rfl)) (pv 1)))
      (pss_cons (ps_dput hu (pv 0) pe_str (pe_op op_fdivN (pe_dget hu (pv 0) pe_str (fun _ _ => rfl)) (pv 1)) rfl)
      (pss_one (ps_ret (pv 2))))) pss_nil)
    (pss_cons (ps_dput hu (pv 0) pe_str (pe_op op_modN (pe_op op_mul (pe_dget hu (pv 0) pe_str (fun _ _ => rfl)) pe_int) pe_int) rfl)
    (pss_one (ps_ret (pe_op op_modN (pe_op op_fdivN (pe_op op_modN (pe_op op_mul (pe_dget hu (pv 0) pe_str (fun _ _ => rfl)) pe_int) pe_int) pe_int) (pv 1)))))), ?_⟩
  obtain ⟨st, many, rfl, F0, S, n, rfl, hF, nS, ⟨left, fr, hS⟩, rfl, hn, hn2, q⟩ := h
  have hn0 : n ≠ 0 := by omega
  have g0 : Gr (fun b => b = S) F0 H F0 H := Gr.refl hF
  have dl : ∀ {H' : Hp} {l : Int} {b : Bool}, H' S = some (.dK [(.inr "left", .int l), (.inr "free", .bl b)]) → DGet H' S (.str "left") (some (.int l)) := fun e => DGet.k (k := .inr "left") e
  have df : ∀ {H' : Hp} {l : Int} {b : Bool}, H' S = some (.dK [(.inr "left", .int l), (.inr "free", .bl b)]) → DGet H' S (.str "free") (some (.bl b)) := fun e => by
    have z := DGet.k (k := .inr "free") e
    exact z
  have put : ∀ (l m : Int) (b : Bool), putK [((Sum.inr "left" : Key), V.int l), ((Sum.inr "free" : Key), V.bl b)] (Sum.inr "left") (V.int m) = [((Sum.inr "left" : Key), V.int m), ((Sum.inr "free" : Key), V.bl b)] := fun l m b => by
    rfl
  refine ⟨_, rfl, S, _, rfl, df hS, _, rfl, ?_⟩
  cases fr with
  | true =>
    refine ite_b rfl ?_
    refine ⟨_, rfl, S, _, rfl, dl hS, _, rfl, _, _, rfl, rfl, hn0, ?_⟩
    refine ⟨_, rfl, S, _, rfl, dl hS, _, rfl, _, _, rfl, rfl, ⟨hn0, by omega⟩, _, rfl, S, _, rfl, DPut.k (k := .inr "left") hS (by show 2 < sizeLine; decide), ?_⟩
    rw [put]
    exact ⟨_, rfl, q _ _ (g0.set nS hS (.inl rfl)) ⟨_, true, upd_same⟩ (Int.fmod_nonneg_of_pos _ hn) (Int.fmod_lt_of_pos _ hn)⟩
  | false =>
    refine ite_nb rfl ?_
    refine ⟨_, rfl, S, _, rfl, dl hS, _, _, rfl, rfl, .inr ⟨by decide, by decide⟩, _, _, rfl, rfl, (by show (2147483647 : Int) ≠ 0; decide), _, rfl, S, _, rfl, DPut.k (k := .inr "left") hS (by show 2 < sizeLine; decide), ?_⟩
    rw [put]
    have hS2 : upd H S (.dK [((Sum.inr "left" : Key), V.int ((left * 48271).fmod 2147483647)), (Sum.inr "free", V.bl false)]) S = _ := upd_same
    refine ⟨_, rfl, S, _, rfl, dl hS2, _, _, rfl, rfl, .inr ⟨by decide, by decide⟩, _, _, rfl, rfl, (by show (2147483629 : Int) ≠ 0; decide), _, _, rfl, rfl, ⟨by decide, by decide⟩, _, rfl, _, _, rfl, rfl, hn0, ?_⟩
    exact q _ _ (g0.set nS hS (.inl rfl)) ⟨_, false, upd_same⟩ (Int.fmod_nonneg_of_pos _ hn) (Int.fmod_lt_of_pos _ hn)
abbrev OnlyS (S : Addr) : Addr → Prop := fun b => b = S
theorem stt_some {S : Addr} {H : Hp} (h : Stt S H) : ∃ o, H S = some o := by
  obtain ⟨l, b, e⟩ := h
  exact ⟨_, e⟩
theorem stt_ne {S p : Addr} {H : Hp} (h : Stt S H) (k : H p = none) : p ≠ S := fun e => by
  obtain ⟨o, ho⟩ := stt_some h
  rw [e, ho] at k
  cases k
theorem Stt.same {S : Addr} {H H' : Hp} (h : Stt S H) (e : Same H H') : Stt S H' := by
  obtain ⟨l, b, k⟩ := h
  exact ⟨l, b, e _ _ k⟩
theorem Stt.put {S p : Addr} {H : Hp} {o : HO} (h : Stt S H) (n : p ≠ S) : Stt S (upd H p o) := by
  obtain ⟨l, b, k⟩ := h
  exact ⟨l, b, upd_at k n.symm⟩
theorem Gr.nonS {S : Addr} {F H F' H' : Hp} (g : Gr (OnlyS S) F H F' H') (h : Stt S H) (n : F S = none) : F' S = none := by
  obtain ⟨o, ho⟩ := stt_some h
  exact g.non ho n
def spNumber (K : PySem.W.Frag) : Sp := Sp2 fun st most H Q => ∃ (F : Hp) (S : Addr) (m : Int), st = .ref S ∧ Same F H ∧ F S = none ∧ Stt S H ∧ most = .int m ∧ 0 < m ∧ m ≤ 1000000000 ∧
  ∀ H' k, Gr (OnlyS S) F H F H' → Stt S H' → -(2 ^ 64) < k → k < 2 ^ 64 → Q (.int k) H'
theorem ok_number (F : FunAt K mg "_law_number" s_l_number) (G : Glb K mg) (c_law_take : Cal P w K mg base "_law_take" 1 ["_law_state_here", "_law_many"] (spTake K)) : Cal P w K mg base "_law_number" 2 ["_law_state_here", "_law_most"] (spNumber K) := by
  refine F.cal sc_l_number Sp2.len (fun _ _ _ _ _ _ us hl => match us, hl with | [_, _], _ => rfl) fun f cdv A outer s H vs Q E hr h => ?_
  have nd := sc_l_number.nd
  have hu := hu_of hr
  have m_range := G.range
  refine ⟨_, (pss_cons (ps_set (i := 2) nd rfl (Or.inl rfl) (pe_cal c_law_take hr rfl (pa_cons (pv 0) (pa_cons pe_int pa_nil))))
    (pss_cons (ps_if (pt_cmpR op_lt (pv 2) pe_int (nomark _)) (pss_one (ps_ret (pe_op op_sub (pe_cal c_law_take hr rfl (pa_cons (pv 0) (pa_cons pe_int pa_nil))) pe_int))) pss_nil)
    (pss_cons (ps_set (i := 3) nd rfl (Or.inl rfl) pe_int)
    (pss_cons (ps_for PassesOwn.never rfl (pi_range1 rfl m_range (pa_cons pe_int pa_nil)) (pg_name (i := 4) nd rfl (Or.inl rfl))
      (pss_one (ps_set (i := 3) nd rfl (Or.inl rfl) (pe_op op_add (pe_op op_mul (pe_op op_mul (pv 3) pe_int) (pe_op op_pow pe_int pe_int)) (pe_cal c_law_take hr rfl (pa_cons (pv 0) (pa_cons (pe_op op_mul pe_int (pe_op op_pow pe_int pe_int)) pa_nil)))))))
    (pss_one (ps_ret (pe_op op_add (pe_op op_sub (pe_op op_modN (pv 3) (pe_op op_sub (pe_op op_mul pe_int (pv 1)) pe_int)) (pv 1)) pe_int))))))), ?_⟩
  obtain ⟨st, most, rfl, F0, S, m, rfl, hF, nS, hS, rfl, hm, hm2, q⟩ := h
  refine ⟨_, rfl, _, _, rfl, F0, S, 4, rfl, hF, nS, hS, rfl, by decide, by decide, fun H1 way g1 hS1 w0 w4 => ?_⟩
  refine ⟨_, rfl, _, _, rfl, rfl, _, rfl, ?_⟩
  by_cases hw : way < 3
  · refine ite_b (decide_eq_true hw) ?_
    refine ⟨_, rfl, _, _, rfl, F0, S, 9, rfl, g1.fh, nS, hS1, rfl, by decide, by decide, fun H2 k g2 hS2 k0 k9 => ?_⟩
    exact ⟨_, _, rfl, rfl, q _ _ (g1.trans g2) hS2 (by omega) (by omega)⟩
  · refine ite_nb (decide_eq_false hw) ?_
    refine ⟨4, rfl, by decide, by decide, for_range (lo := 0) (n := 4) (fun i σ H' => ∃ (x : Option V) (fo : Int), σ = [some (.ref S), some (.int m), some (.int way), some (.int fo), x] ∧ Gr (OnlyS S) F0 H F0 H' ∧ Stt S H') ⟨none, 0, rfl, g1, hS1⟩ ?_ ?_⟩
    · rintro i σ H2 hi ⟨x, fo, rfl, g2, hS2⟩
      refine ⟨_, rfl, _, _, rfl, rfl, .inr ⟨by decide, by decide⟩, _, _, rfl, rfl, ⟨by decide, by decide, by decide⟩, _, _, rfl, rfl, .inr ⟨by decide, by decide⟩, ?_⟩
      refine ⟨_, rfl, _, _, rfl, rfl, ⟨by decide, by decide, by decide⟩, _, _, rfl, rfl, .inr ⟨by decide, by decide⟩, _, _, rfl, F0, S, _, rfl, g2.fh, nS, hS2, rfl, by decide, by decide, fun H3 k g3 hS3 k0 k9 => ?_⟩
      exact ⟨_, _, rfl, rfl, _, _, rfl, g2.trans g3, hS3⟩
    · rintro σ H2 ⟨x, fo, rfl, g2, hS2⟩
      have h2 : (0 : Int) < 2 * m - 1 := by omega
      refine ⟨_, rfl, _, rfl, _, _, rfl, rfl, .inl ⟨by decide, by decide⟩, _, _, rfl, rfl, _, _, rfl, rfl, by omega, _, rfl, _, _, rfl, rfl, _, _, rfl, rfl, ?_⟩
      have e1 := Int.fmod_nonneg_of_pos fo h2
      have e2 := Int.fmod_lt_of_pos fo h2
      exact q _ _ g2 hS2 (by omega) (by omega)
def spSum (K : PySem.W.Frag) : Sp := Sp2 fun st names H Q => ∃ (F : Hp) (S a : Addr) (N : List Str), st = .ref S ∧ Same F H ∧ F S = none ∧ Stt S H ∧ names = .ref a ∧ H a = some (.lst (N.map V.str)) ∧ N.length ≤ 10 ∧ (∀ x ∈ N, PyData.strOk x = true) ∧
  ∀ F' H' v (sm : Sm), Gr (OnlyS S) F H F' H' → Stt S H' → Da K F' v sm.d → sm.Ok N → Q v H'
theorem ok_sum (F : FunAt K mg "_law_sum" s_l_sum) (G : Glb K mg) (c_law_take : Cal P w K mg base "_law_take" 1 ["_law_state_here", "_law_many"] (spTake K)) (c_law_number : Cal P w K mg base "_law_number" 2 ["_law_state_here", "_law_most"] (spNumber K)) : Cal P w K mg base "_law_sum" 3 ["_law_state_here", "_law_names"] (spSum K) := by
  refine F.cal sc_l_sum Sp2.len (fun _ _ _ _ _ _ us hl => match us, hl with | [_, _], _ => rfl) fun f cdv A outer s H vs Q E hr h => ?_
  have nd := sc_l_sum.nd
  have hu := hu_of hr
  have m_sorted := G.sorted
  have m_tuple := G.tuple
  refine ⟨_, (pss_cons (ps_set (i := 2) nd rfl (Or.inl rfl) (pe_lst pa_nil))
    (pss_cons (ps_for PassesOwn.never rfl (pi_list (pe_callB cr_sortedS (by rfl) m_sorted (by decide +kernel) (pa_cons (pv 1) pa_nil))) (pg_name (i := 3) nd rfl (Or.inl rfl))
      (pss_one (ps_if (pt_cmpR op_eq (pe_cal c_law_take hr rfl (pa_cons (pv 0) (pa_cons pe_int pa_nil))) pe_int (nomark _)) (pss_cons (ps_set (i := 4) nd rfl (Or.inl rfl) (pe_cal c_law_number hr rfl (pa_cons (pv 0) (pa_cons (pe_op op_pow pe_int pe_int) pa_nil))))
        (pss_one (ps_if (pt_cmpR op_ne (pv 4) pe_int (nomark _)) (pss_one (ps_expr (pe_bm PySem.F.plainAttrs_list PySem.F.slot_list_append PySem.F.type_list_append mt_append (pv 2) (pa_cons (pe_tup (pa_cons (pv 3) (pa_cons (pv 4) pa_nil))) pa_nil)))) pss_nil))) pss_nil)))
    (pss_one (ps_ret (pe_tup (pa_cons (pe_cal c_law_number hr rfl (pa_cons (pv 0) (pa_cons (pe_op op_pow pe_int pe_int) pa_nil))) (pa_cons (pe_callTy call_tuple_of (by rfl) m_tuple (by decide +kernel) (pa_cons (pv 2) pa_nil)) pa_nil))))))), ?_⟩
  obtain ⟨st, names, rfl, F0, S, a, N, rfl, hF, nS, hS, rfl, ha, hN, hok, q⟩ := h
  refine ⟨Nat.zero_le _, fun L hL => ?_⟩
  have g1 : Gr (OnlyS S) F0 H F0 (upd H L (.lst [])) := (Gr.refl hF).new hL
  have hS1 := hS.put (o := .lst []) (stt_ne hS hL)
  have hLF : F0 L = none := hF.free hL
  refine ⟨_, rfl, a, N, rfl, SqL.of (Same.new hL _ _ ha), by omega, fun ys p hp hso hpn => ?_⟩
  have g2 := g1.newF (o := .lst (ys.map V.str)) hpn
  have hS2 := hS1.put (o := .lst (ys.map V.str)) (stt_ne hS1 hpn)
  have nL : L ≠ p := ne_of_none upd_same hpn
  have nF : upd F0 p (.lst (ys.map V.str)) L = none := by rw [upd_ne nL]; exact hLF
  have nFS := g2.nonS hS nS
  refine ⟨p, rfl, ⟨_, SqL.of upd_same⟩, for_list (K := K) (a := p) (xs := ys.map V.str) (fun i σ H' => ∃ (F' : Hp) (acc : List V) (ps : List (Str × Int)) (x y : Option V), σ = [some (.ref S), some (.ref a), some (.ref L), x, y] ∧ Gr (OnlyS S) F0 H F' H' ∧ Stt S H' ∧ F' p = some (.lst (ys.map V.str)) ∧ F' L = none ∧ H' L = some (.lst acc) ∧ Das K F' acc (ps.map pd) ∧ ps.length ≤ i ∧ ∀ q ∈ ps, q.1 ∈ N ∧ -(2 ^ 64) < q.2 ∧ q.2 < 2 ^ 64)
    ⟨_, [], [], none, none, rfl, g2, hS2, upd_same, nF, Same.new hpn _ _ upd_same, .nil, Nat.zero_le _, fun _ h => nomatch h⟩ (fun i σ H' _ ⟨_, _, _, _, _, _, g, _, e, _⟩ => SqL.of (g.fh _ _ e)) ?_ ?_⟩
  · rintro i v σ H3 hi ⟨F', acc, ps, x, y, rfl, g, hS3, fp, fL, hL3, da, pl, pok⟩
    have nS3 := g.nonS hS nS
    rw [List.getElem?_map] at hi
    cases hx : ys[i]? with
    | none =>
      rw [hx] at hi
      cases hi
    | some n =>
      rw [hx] at hi
      cases hi
      have hnN : n ∈ N := hp.mem_iff.mp (List.mem_of_getElem? hx)
      have hil : i < 10 := by
        have := (List.getElem?_eq_some_iff.mp hx).1
        have := hp.length_eq
        omega
      have LS : L ≠ S := stt_ne hS hL
      refine ⟨_, rfl, _, _, rfl, F', S, 2, rfl, g.fh, nS3, hS3, rfl, by decide, by decide, fun H4 k g4 hS4 k0 k2 => ?_⟩
      have hL4 := g4.kp _ _ hL3 LS
      refine ⟨rfl, _, rfl, ?_⟩
      by_cases hk : k = 1
      · refine ite_b (by rw [hk]; exact decide_eq_true rfl) ?_
        refine ⟨_, rfl, _, _, rfl, rfl, ⟨by decide, by decide, by decide⟩, _, _, rfl, F', S, _, rfl, g4.fh, nS3, hS4, rfl, by decide, by decide, fun H5 t g5 hS5 t0 t1 => ?_⟩
        have hL5 := g5.kp _ _ hL4 LS
        have g45 := (g.trans g4).trans g5
        refine ⟨_, rfl, rfl, _, rfl, ?_⟩
        by_cases ht : t = 0
        · refine ite_nb (by rw [ht]; decide) ?_
          exact ⟨F', acc, ps, _, _, rfl, g45, hS5, fp, fL, hL5, da, by omega, pok⟩
        · refine ite_b (by show (!decide (V.int t = V.int 0)) = true; rw [decide_eq_false (fun z => ht (V.int.inj z))]; rfl) ?_
          refine ⟨_, rfl, .inl ⟨rfl, acc, SqL.of hL5⟩, _, rfl, _, rfl, (by show 2 ≤ sizeLine; decide), fun t2 p2 => ?_⟩
          have g6 := g45.newF (o := .tup [.str n, .int t]) p2
          have sf := Same.new (o := .tup [.str n, .int t]) (g45.fh.free p2)
          have nLt : L ≠ t2 := ne_of_none hL5 p2
          have hL6 : upd H5 t2 (.tup [.str n, .int t]) L = some (.lst acc) := upd_at hL5 nLt
          have fL6 : upd F' t2 (.tup [.str n, .int t]) L = none := by rw [upd_ne nLt]; exact fL
          refine ⟨L, acc, _, rfl, rfl, hL6, ?_, ?_⟩
          · have := da.lenM
            rw [sizeLine_eq]
            omega
          refine ⟨_, acc ++ [.ref t2], ps ++ [(n, t)], _, _, rfl, g6.set fL6 hL6 (.inr hL), (hS5.put (stt_ne hS5 p2)).put LS, sf _ _ fp, fL6, upd_same, ?_, ?_, fun q1 hq1 => ?_⟩
          · rw [List.map_append]
            exact (da.mono sf).app (.cons (.tup (SqT.of upd_same) (.cons (.str _) (.cons (.int _) .nil))) .nil)
          · rw [List.length_append]
            exact Nat.succ_le_succ pl
          · rcases List.mem_append.mp hq1 with z | z
            · exact pok q1 z
            · rw [List.mem_singleton.mp z]
              exact ⟨hnN, t0, t1⟩
      · refine ite_nb (decide_eq_false (fun z => hk (V.int.inj z))) ?_
        exact ⟨F', acc, ps, _, _, rfl, g.trans g4, hS4, fp, fL, hL4, da, by omega, pok⟩
  · rintro σ H3 ⟨F', acc, ps, x, y, rfl, g, hS3, fp, fL, hL3, da, pl, pok⟩
    have nS3 := g.nonS hS nS
    have hpl : ps.length ≤ 10 := by
      have := hp.length_eq
      rw [List.length_map] at pl
      omega
    refine ⟨_, rfl, _, _, rfl, rfl, ⟨by decide, by decide, by decide⟩, _, _, rfl, F', S, _, rfl, g.fh, nS3, hS3, rfl, by decide, by decide, fun H4 k g4 hS4 k0 k1 => ?_⟩
    have hL4 := g4.kp _ _ hL3 (stt_ne hS hL)
    refine ⟨_, rfl, L, acc, rfl, .inl ⟨SqL.of hL4, fun t1 p1 => ?_⟩⟩
    have g5 := (g.trans g4).newF (o := .tup acc) p1
    have sf5 := Same.new (o := .tup acc) ((g.trans g4).fh.free p1)
    have hS5 := hS4.put (o := .tup acc) (stt_ne hS4 p1)
    refine ⟨(by show 2 ≤ sizeLine; decide), fun t2 p2 => ?_⟩
    have g6 := g5.newF (o := .tup [.int k, .ref t1]) p2
    have sf6 := Same.new (o := .tup [.int k, .ref t1]) (g5.fh.free p2)
    refine q _ _ _ ⟨k, ps⟩ g6 (hS5.put (stt_ne hS5 p2)) ?_ ⟨hpl, fun q1 hq1 => ⟨(pok q1 hq1).1, hok _ (pok q1 hq1).1, (pok q1 hq1).2.1, (pok q1 hq1).2.2⟩⟩
    exact .tup (SqT.of upd_same) (.cons (.int _) (.cons (.tup (SqT.of (sf6 _ _ upd_same)) ((da.mono sf5).mono sf6)) .nil))
end
end Ca
namespace Ca
open PySem L2
abbrev s_l_remark : Stmt := top 54
abbrev N_l_remark : List Str := ["_law_state_here", "_law_names", "_law_hands", "_law_deep", "_law_kind", "_law_many", "_law_k"]
theorem sc_l_remark : FnScope N_l_remark ["_law_state_here", "_law_names", "_law_hands", "_law_deep"] (defScope s_l_remark) := ⟨rfl, rfl, rfl, by decide +kernel, rfl, by decide +kernel, by decide +kernel⟩
-- cells: ['_law_deep', '_law_hands', '_law_names', '_law_state_here']  slots: 0=_law_state_here 1=_law_names 2=_law_hands 3=_law_deep 4=_law_kind 5=_law_many 6=_law_k
/-- a step of the generator -/
structure Gs (S : Addr) (F H F' H' : Hp) : Prop where
  gr : Gr (OnlyS S) F H F' H'
  st : Stt S H'
  nf : F' S = none
section
variable {S : Addr} {F H F1 H1 F2 H2 : Hp}
theorem Gs.refl (h : Same F H) (s : Stt S H) (n : F S = none) : Gs S F H F H := ⟨Gr.refl h, s, n⟩
theorem Gs.trans (a : Gs S F H F1 H1) (b : Gs S F1 H1 F2 H2) : Gs S F H F2 H2 := ⟨a.gr.trans b.gr, b.st, b.nf⟩
theorem Gs.new (a : Gs S F H F1 H1) {p : Addr} {o : HO} (h : H1 p = none) : Gs S F H F1 (upd H1 p o) := ⟨a.gr.new h, a.st.put (stt_ne a.st h), a.nf⟩
theorem Gs.newF (a : Gs S F H F1 H1) {p : Addr} {o : HO} (h : H1 p = none) : Gs S F H (upd F1 p o) (upd H1 p o) := ⟨a.gr.newF h, a.st.put (stt_ne a.st h), by rw [upd_ne (stt_ne a.st h).symm]; exact a.nf⟩
theorem Gs.sub (a : Gs S F H F1 H1) : Gs S F1 H1 F1 H1 := ⟨Gr.refl a.gr.fh, a.st, a.nf⟩
theorem Gs.of (g : Gr (OnlyS S) F1 H1 F2 H2) (s : Stt S H2) (n : F2 S = none) : Gs S F1 H1 F2 H2 := ⟨g, s, n⟩
theorem Gs.kp (a : Gs S F H F1 H1) {b : Addr} {xs : List V} (h : H b = some (.lst xs)) (s : Stt S H) : H1 b = some (.lst xs) := by
  obtain ⟨l, c, e⟩ := s
  exact a.gr.kp _ _ h (ne_kind h e (fun z => nomatch z))
theorem Gs.kpD (a : Gs S F H F1 H1) {b : Addr} {o : HO} (h : H b = some o) (n : b ≠ S) : H1 b = some o := a.gr.kp _ _ h n
theorem Gs.set (a : Gs S F H F1 H1) {p : Addr} {o u : HO} (n : F1 p = none) (h : H1 p = some u) (hp : H p = none) (ns : p ≠ S) : Gs S F H F1 (upd H1 p o) := ⟨a.gr.set n h (.inr hp), a.st.put ns, a.nf⟩
theorem Gs.frz (a : Gs S F H F1 H1) {p : Addr} {o : HO} (n : F1 p = none) (h : H1 p = some o) (hp : H p = none) (ns : p ≠ S) : Gs S F H (upd F1 p o) H1 := ⟨a.gr.frz n h hp, a.st, by rw [upd_ne ns.symm]; exact a.nf⟩
theorem Gs.same (a : Gs S F H F1 H1) (e : Same H1 H2) : Gs S F H F1 H2 := ⟨a.gr.same e, a.st.same e, a.nf⟩
theorem Gs.fh (a : Gs S F H F1 H1) : Same F1 H1 := a.gr.fh
theorem Gs.ff (a : Gs S F H F1 H1) : Same F F1 := a.gr.ff
end
theorem two {k : Int} (h0 : 0 ≤ k) (h1 : k < 2) : k = 0 ∨ k = 1 := by omega
section
variable {P : Program} {w : World} {K : PySem.W.Frag} {mg : Str → Option Value} {base : Heap}
def NmL (H : Hp) (v : V) (N : List Str) : Prop := ∃ a, v = .ref a ∧ H a = some (.lst (N.map V.str)) ∧ N.length ≤ 10 ∧ ∀ x ∈ N, PyData.strOk x = true
theorem NmL.kp {S : Addr} {F H F1 H1 : Hp} {v : V} {N : List Str} (h : NmL H v N) (a : Gs S F H F1 H1) (s : Stt S H) : NmL H1 v N := by
  obtain ⟨b, e, h1, h2⟩ := h
  exact ⟨b, e, a.kp h1 s, h2⟩
def spRem (K : PySem.W.Frag) (e : Nat) : Sp := Sp4 fun st names hands deep H Q => ∃ (F : Hp) (S : Addr) (N Hs : List Str), st = .ref S ∧ Gs S F H F H ∧ NmL H names N ∧ NmL H hands Hs ∧ 1 ≤ Hs.length ∧ 1 ≤ e ∧ e ≤ 2 ∧ deep = .int ((e : Int) - 1) ∧
  ∀ F' H' v (r : Rk), Gs S F H F' H' → Da K F' v r.d → r.Ok N Hs e → Q v H'
theorem remark_step {e : Nat} (F : FunAt K mg "_law_remark" s_l_remark) (G : Glb K mg) (c_law_take : Cal P w K mg base "_law_take" 1 ["_law_state_here", "_law_many"] (spTake K)) (c_law_sum : Cal P w K mg base "_law_sum" 3 ["_law_state_here", "_law_names"] (spSum K))
    (c_law_remark : Cal P w K mg base "_law_remark" (e + 4) ["_law_state_here", "_law_names", "_law_hands", "_law_deep"] (spRem K e)) : Cal P w K mg base "_law_remark" (e + 5) ["_law_state_here", "_law_names", "_law_hands", "_law_deep"] (spRem K (e + 1)) := by
  refine F.cal sc_l_remark Sp4.len (fun _ _ _ _ _ _ us hl => match us, hl with | [_, _, _, _], _ => rfl) fun f cdv A outer s H vs Q E hr h => ?_
  have nd := sc_l_remark.nd
  have hu := hu_of hr
  have m_int := G.int
  have m_len := G.len
  have m_range := G.range
  have m_tuple := G.tuple
  refine ⟨_, (pss_cons (ps_set (i := 4) nd rfl (Or.inl rfl) (pe_cal c_law_take hr rfl (pa_cons (pv 0) (pa_cons pe_int pa_nil))))
    (pss_cons (ps_if (PW.pt (pw_or (pt_cmpR op_eq (pv 3) pe_int (nomark _)) (pw_or1 (pt_cmpR op_lt (pv 4) pe_int (nomark _))))) (pss_cons (ps_if (pt_cmpR op_eq (pe_op op_modN (pv 4) pe_int) pe_int (nomark _)) (pss_one (ps_ret (pe_tup (pa_cons pe_str (pa_cons (pe_cal c_law_sum hr rfl (pa_cons (pv 0) (pa_cons (pv 1) pa_nil))) (pa_cons (pe_op op_add pe_int (pe_cal c_law_take hr rfl (pa_cons (pv 0) (pa_cons pe_int pa_nil)))) pa_nil)))))) pss_nil)
      (pss_cons (ps_if (pt_cmpR op_eq (pe_op op_modN (pv 4) pe_int) pe_int (nomark _)) (pss_one (ps_ret (pe_tup (pa_cons pe_str (pa_cons (pe_ix ix_list (pv 2) (pe_cal c_law_take hr rfl (pa_cons (pv 0) (pa_cons (pe_callB call_len_seq (by rfl) m_len (by decide +kernel) (pa_cons (pv 2) pa_nil)) pa_nil))) (fun _ _ => rfl)) (pa_cons (pe_ix ix_list (pe_lst (pa_cons pe_str (pa_cons pe_str pa_nil))) (pe_cal c_law_take hr rfl (pa_cons (pv 0) (pa_cons pe_int pa_nil))) (fun _ _ => rfl)) pa_nil)))))) pss_nil)
      (pss_one (ps_ret (pe_tup (pa_cons pe_str (pa_cons (pe_cal c_law_sum hr rfl (pa_cons (pv 0) (pa_cons (pv 1) pa_nil))) pa_nil))))))) pss_nil)
    (pss_cons (ps_if (pt_cmpR op_eq (pv 4) pe_int (nomark _)) (pss_one (ps_ret (pe_tup (pa_cons pe_str (pa_cons (pe_cal c_law_remark hr rfl (pa_cons (pv 0) (pa_cons (pv 1) (pa_cons (pv 2) (pa_cons (pe_op op_sub (pv 3) pe_int) pa_nil))))) pa_nil))))) pss_nil)
    (pss_cons (ps_if (pt_cmpR op_eq (pv 4) pe_int (nomark _)) (pss_one (ps_ret (pe_tup (pa_cons (pe_ix ix_list (pe_lst (pa_cons pe_str (pa_cons pe_str pa_nil))) (pe_cal c_law_take hr rfl (pa_cons (pv 0) (pa_cons pe_int pa_nil))) (fun _ _ => rfl)) (pa_cons (pe_tup pa_nil) pa_nil))))) pss_nil)
    (pss_cons (ps_if (pt_cmpR op_lt (pv 4) pe_int (nomark _)) (pss_cons (ps_set (i := 5) nd rfl (Or.inl rfl) (pe_op op_add pe_int (pe_cal c_law_take hr rfl (pa_cons (pv 0) (pa_cons (pe_op op_add pe_int (pe_op op_mul pe_int (pe_callTy call_int1 (by rfl) m_int (by decide +kernel) (pa_cons (pe_cmpR op_eq (pv 3) pe_int (nomark _)) pa_nil)))) pa_nil)))))
      (pss_one (ps_ret (pe_tup (pa_cons (pe_ix ix_list (pe_lst (pa_cons pe_str (pa_cons pe_str pa_nil))) (pe_op op_sub (pv 4) pe_int) (fun _ _ => rfl)) (pa_cons (pe_callTy call_tuple_of (by rfl) m_tuple (by decide +kernel) (pa_cons (pe_lc (own := [("_law_k", 6)]) (g := (gName 6)) (tt := tYes) rfl nd (pi_range1 rfl m_range (pa_cons (pv 5) pa_nil)) (blkOk_by (own := [("_law_k", 6)]) (N := N_l_remark) (sc := defScope s_l_remark) (by decide +kernel)) (fun _ _ _ _ _ => (pg_name (i := 6) nd rfl (Or.inl rfl))) (fun _ _ _ _ _ => pts_nil) (fun _ _ _ _ _ => (pe_cal c_law_remark hr rfl (pa_cons (pv 0) (pa_cons (pv 1) (pa_cons (pv 2) (pa_cons (pe_op op_sub (pv 3) pe_int) pa_nil))))))) pa_nil)) pa_nil)))))) pss_nil)
    (pss_one (ps_ret (pe_tup (pa_cons pe_str (pa_cons (pe_cal c_law_sum hr rfl (pa_cons (pv 0) (pa_cons (pv 1) pa_nil))) pa_nil)))))))))), ?_⟩
  obtain ⟨st, names, hands, deep, rfl, F0, S, N, Hs, rfl, g0, hN, hH, hHs, _, he2, rfl, q⟩ := h
  obtain ⟨nma, rfl, nm1', nm2, nm3⟩ := hN
  obtain ⟨hda, rfl, hd1', hd2, hd3⟩ := hH
  have hdp : V.int (((e + 1 : Nat) : Int) - 1) = V.int (e : Int) := congrArg V.int (by omega)
  rw [hdp]
  refine ⟨_, rfl, _, _, rfl, _, S, 8, rfl, g0.fh, g0.nf, g0.st, rfl, by decide, by decide, fun H1 k grH1 stH1 k0 k1 => ?_⟩
  have g1 : Gs S F0 H F0 H1 := ⟨grH1, stH1, g0.nf⟩
  have nm1 := g1.kp nm1' g0.st
  have hd1 := g1.kp hd1' g0.st
  have hHl : (Hs.map V.str).length = Hs.length := List.length_map _
  refine ⟨_, rfl, rfl, _, rfl, ?_⟩
  by_cases he : e = 0
  · refine ite_b (by rw [he]; exact decide_eq_true rfl) ?_
    refine ⟨_, rfl, _, _, rfl, rfl, (by show (4 : Int) ≠ 0; decide), rfl, _, rfl, ?_⟩
    by_cases c1 : k.fmod 4 = 1
    · refine ite_b (decide_eq_true (congrArg V.int c1)) ?_
      refine ⟨_, rfl, _, rfl, _, _, rfl, _, S, nma, _, rfl, g1.fh, g1.nf, g1.st, rfl, nm1, nm2, nm3, fun F2 H2 v sm grH2 stH2 dH2 oH2 => ?_⟩
      have g2 := g1.trans (⟨grH2, stH2, grH2.nonS g1.st g1.nf⟩ : Gs S _ _ F2 H2)
      refine ⟨_, rfl, _, _, rfl, _, S, 11, rfl, g2.fh, g2.nf, g2.st, rfl, by decide, by decide, fun H3 m grH3 stH3 m0 m1 => ?_⟩
      have g3 := g2.trans (⟨grH3, stH3, g2.nf⟩ : Gs S F2 H2 F2 H3)
      refine ⟨_, _, rfl, rfl, (by show 3 ≤ sizeLine; decide), fun t ht => q _ _ _ (.rest sm (2 + m)) (g3.newF ht) (.tup (SqT.of upd_same) (.cons (.str _) (.cons (dH2.mono (Same.new (g3.fh.free ht))) (.cons (.int _) .nil)))) ⟨oH2, by omega, by omega⟩⟩
    · refine ite_nb (decide_eq_false (fun z => c1 (V.int.inj z))) ?_
      refine ⟨_, rfl, _, _, rfl, rfl, (by show (4 : Int) ≠ 0; decide), rfl, _, rfl, ?_⟩
      by_cases c2 : k.fmod 4 = 2
      · refine ite_b (decide_eq_true (congrArg V.int c2)) ?_
        refine ⟨_, rfl, _, rfl, _, rfl, hda, _, rfl, .inl (SqL.of hd1), _, _, rfl, _, S, _, rfl, g1.fh, g1.nf, g1.st, rfl, by omega, by omega, fun H2 i grH2 stH2 i0 i1 => ?_⟩
        have g2 := g1.trans (⟨grH2, stH2, g1.nf⟩ : Gs S F0 H1 F0 H2)
        have hd2' := g2.kp hd1' g0.st
        obtain ⟨j, rfl⟩ := Int.eq_ofNat_of_zero_le i0
        rw [hHl] at i1
        have hj : j < Hs.length := by omega
        have hjv : (Hs.map V.str)[j]? = some (.str (Hs[j])) := by rw [List.getElem?_map, List.getElem?_eq_getElem hj]; rfl
        refine ⟨hda, _, _, _, rfl, rfl, SqL.of hd2', atI_nat hjv, (by show 2 ≤ sizeLine; decide), fun l hl => ?_⟩
        have g3 := g2.new (o := .lst [.str "lab", .str "fin"]) hl
        refine ⟨_, rfl, _, _, rfl, _, S, 2, rfl, g3.fh, g3.nf, g3.st, rfl, by decide, by decide, fun H4 m grH4 stH4 m0 m1 => ?_⟩
        have g4 := g3.trans (⟨grH4, stH4, g3.nf⟩ : Gs S F0 _ F0 H4)
        have l4 : H4 l = some (.lst [.str "lab", .str "fin"]) := grH4.kp _ _ upd_same (stt_ne g2.st hl)
        have okh : Hs[j] ∈ Hs ∧ PyData.strOk (Hs[j]) = true := ⟨List.getElem_mem hj, hd3 _ (List.getElem_mem hj)⟩
        rcases two m0 m1 with rfl | rfl
        · refine ⟨l, _, 0, .str "lab", rfl, rfl, SqL.of l4, rfl, (by show 3 ≤ sizeLine; decide), fun t ht => q _ _ _ (.at (Hs[j]) (.str "lab")) (g4.newF ht) (.tup (SqT.of upd_same) (.cons (.str _) (.cons (.str _) (.cons (.str _) .nil)))) ⟨okh.1, okh.2, .inl rfl⟩⟩
        · refine ⟨l, _, 1, .str "fin", rfl, rfl, SqL.of l4, rfl, (by show 3 ≤ sizeLine; decide), fun t ht => q _ _ _ (.at (Hs[j]) (.str "fin")) (g4.newF ht) (.tup (SqT.of upd_same) (.cons (.str _) (.cons (.str _) (.cons (.str _) .nil)))) ⟨okh.1, okh.2, .inr rfl⟩⟩
      · refine ite_nb (decide_eq_false (fun z => c2 (V.int.inj z))) ?_
        refine ⟨_, rfl, _, rfl, _, _, rfl, _, S, nma, _, rfl, g1.fh, g1.nf, g1.st, rfl, nm1, nm2, nm3, fun F9 H9 v9 sm9 grH9 stH9 dH9 oH9 => ?_⟩
        have g9 := g1.trans (⟨grH9, stH9, grH9.nonS g1.st g1.nf⟩ : Gs S _ _ F9 H9)
        refine ⟨(by show 2 ≤ sizeLine; decide), fun t ht => q _ _ _ (.most sm9) (g9.newF ht) (.tup (SqT.of upd_same) (.cons (.str _) (.cons (dH9.mono (Same.new (g9.fh.free ht))) .nil))) oH9⟩
  refine ite_nb (decide_eq_false (fun z => he (by have := V.int.inj z; omega))) ?_
  refine ⟨_, rfl, _, _, rfl, rfl, _, rfl, ?_⟩
  by_cases hk2 : k < 2
  · refine ite_b (decide_eq_true hk2) ?_
    refine ⟨_, rfl, _, _, rfl, rfl, (by show (4 : Int) ≠ 0; decide), rfl, _, rfl, ?_⟩
    by_cases c1 : k.fmod 4 = 1
    · refine ite_b (decide_eq_true (congrArg V.int c1)) ?_
      refine ⟨_, rfl, _, rfl, _, _, rfl, _, S, nma, _, rfl, g1.fh, g1.nf, g1.st, rfl, nm1, nm2, nm3, fun F2 H2 v sm grH2 stH2 dH2 oH2 => ?_⟩
      have g2 := g1.trans (⟨grH2, stH2, grH2.nonS g1.st g1.nf⟩ : Gs S _ _ F2 H2)
      refine ⟨_, rfl, _, _, rfl, _, S, 11, rfl, g2.fh, g2.nf, g2.st, rfl, by decide, by decide, fun H3 m grH3 stH3 m0 m1 => ?_⟩
      have g3 := g2.trans (⟨grH3, stH3, g2.nf⟩ : Gs S F2 H2 F2 H3)
      refine ⟨_, _, rfl, rfl, (by show 3 ≤ sizeLine; decide), fun t ht => q _ _ _ (.rest sm (2 + m)) (g3.newF ht) (.tup (SqT.of upd_same) (.cons (.str _) (.cons (dH2.mono (Same.new (g3.fh.free ht))) (.cons (.int _) .nil)))) ⟨oH2, by omega, by omega⟩⟩
    · refine ite_nb (decide_eq_false (fun z => c1 (V.int.inj z))) ?_
      refine ⟨_, rfl, _, _, rfl, rfl, (by show (4 : Int) ≠ 0; decide), rfl, _, rfl, ?_⟩
      by_cases c2 : k.fmod 4 = 2
      · refine ite_b (decide_eq_true (congrArg V.int c2)) ?_
        refine ⟨_, rfl, _, rfl, _, rfl, hda, _, rfl, .inl (SqL.of hd1), _, _, rfl, _, S, _, rfl, g1.fh, g1.nf, g1.st, rfl, by omega, by omega, fun H2 i grH2 stH2 i0 i1 => ?_⟩
        have g2 := g1.trans (⟨grH2, stH2, g1.nf⟩ : Gs S F0 H1 F0 H2)
        have hd2' := g2.kp hd1' g0.st
        obtain ⟨j, rfl⟩ := Int.eq_ofNat_of_zero_le i0
        rw [hHl] at i1
        have hj : j < Hs.length := by omega
        have hjv : (Hs.map V.str)[j]? = some (.str (Hs[j])) := by rw [List.getElem?_map, List.getElem?_eq_getElem hj]; rfl
        refine ⟨hda, _, _, _, rfl, rfl, SqL.of hd2', atI_nat hjv, (by show 2 ≤ sizeLine; decide), fun l hl => ?_⟩
        have g3 := g2.new (o := .lst [.str "lab", .str "fin"]) hl
        refine ⟨_, rfl, _, _, rfl, _, S, 2, rfl, g3.fh, g3.nf, g3.st, rfl, by decide, by decide, fun H4 m grH4 stH4 m0 m1 => ?_⟩
        have g4 := g3.trans (⟨grH4, stH4, g3.nf⟩ : Gs S F0 _ F0 H4)
        have l4 : H4 l = some (.lst [.str "lab", .str "fin"]) := grH4.kp _ _ upd_same (stt_ne g2.st hl)
        have okh : Hs[j] ∈ Hs ∧ PyData.strOk (Hs[j]) = true := ⟨List.getElem_mem hj, hd3 _ (List.getElem_mem hj)⟩
        rcases two m0 m1 with rfl | rfl
        · refine ⟨l, _, 0, .str "lab", rfl, rfl, SqL.of l4, rfl, (by show 3 ≤ sizeLine; decide), fun t ht => q _ _ _ (.at (Hs[j]) (.str "lab")) (g4.newF ht) (.tup (SqT.of upd_same) (.cons (.str _) (.cons (.str _) (.cons (.str _) .nil)))) ⟨okh.1, okh.2, .inl rfl⟩⟩
        · refine ⟨l, _, 1, .str "fin", rfl, rfl, SqL.of l4, rfl, (by show 3 ≤ sizeLine; decide), fun t ht => q _ _ _ (.at (Hs[j]) (.str "fin")) (g4.newF ht) (.tup (SqT.of upd_same) (.cons (.str _) (.cons (.str _) (.cons (.str _) .nil)))) ⟨okh.1, okh.2, .inr rfl⟩⟩
      · refine ite_nb (decide_eq_false (fun z => c2 (V.int.inj z))) ?_
        refine ⟨_, rfl, _, rfl, _, _, rfl, _, S, nma, _, rfl, g1.fh, g1.nf, g1.st, rfl, nm1, nm2, nm3, fun F9 H9 v9 sm9 grH9 stH9 dH9 oH9 => ?_⟩
        have g9 := g1.trans (⟨grH9, stH9, grH9.nonS g1.st g1.nf⟩ : Gs S _ _ F9 H9)
        refine ⟨(by show 2 ≤ sizeLine; decide), fun t ht => q _ _ _ (.most sm9) (g9.newF ht) (.tup (SqT.of upd_same) (.cons (.str _) (.cons (dH9.mono (Same.new (g9.fh.free ht))) .nil))) oH9⟩
  refine ite_nb (decide_eq_false hk2) ?_
  refine ⟨_, rfl, rfl, _, rfl, ?_⟩
  by_cases c2 : k = 2
  · refine ite_b (decide_eq_true (congrArg V.int c2)) ?_
    refine ⟨_, rfl, _, rfl, _, rfl, _, rfl, _, _, rfl, rfl, _, _, _, _, rfl, _, S, N, Hs, rfl, g1.sub, ⟨nma, rfl, g1.kp nm1' g0.st, nm2, nm3⟩, ⟨hda, rfl, g1.kp hd1' g0.st, hd2, hd3⟩, hHs, by omega, by omega, rfl, fun F2 H2 v r gH2 dH2 oH2 => ?_⟩
    have g2 := g1.trans gH2
    refine ⟨(by show 2 ≤ sizeLine; decide), fun t ht => q _ _ _ (.not r) (g2.newF ht) (.tup (SqT.of upd_same) (.cons (.str _) (.cons (dH2.mono (Same.new (g2.fh.free ht))) .nil))) oH2⟩
  refine ite_nb (decide_eq_false (fun z => c2 (V.int.inj z))) ?_
  refine ⟨_, rfl, rfl, _, rfl, ?_⟩
  by_cases c3 : k = 3
  · refine ite_b (decide_eq_true (congrArg V.int c3)) ?_
    refine ⟨(by show 2 ≤ sizeLine; decide), fun l hl => ?_⟩
    have g2 := g1.new (o := .lst [.str "and", .str "or"]) hl
    refine ⟨_, rfl, _, _, rfl, _, S, 2, rfl, g2.fh, g2.nf, g2.st, rfl, by decide, by decide, fun H4 m grH4 stH4 m0 m1 => ?_⟩
    have g4 := g2.trans (⟨grH4, stH4, g2.nf⟩ : Gs S F0 _ F0 H4)
    have l4 : H4 l = some (.lst [.str "and", .str "or"]) := grH4.kp _ _ upd_same (stt_ne g1.st hl)
    have fin : ∀ (x : Str) (r : Rk), Rk.d r = .tuple [.str x, .tuple []] → r.Ok N Hs (e + 1) → (0 ≤ sizeLine ∧ ∀ t5, H4 t5 = none → (2 ≤ sizeLine ∧ ∀ t, upd H4 t5 (.tup []) t = none → Q (.ref t) (upd (upd H4 t5 (.tup [])) t (.tup [.str x, .ref t5])))) := fun x r ed o => ⟨Nat.zero_le _, fun t5 h5 => ⟨by decide, fun t ht => by
      have g5 := g4.newF (o := .tup []) h5
      have g6 := g5.newF (o := .tup [.str x, .ref t5]) ht
      refine q _ _ _ r g6 ?_ o
      rw [ed]
      exact .tup (SqT.of upd_same) (.cons (.str _) (.cons (.tup (SqT.of (Same.new (g5.fh.free ht) _ _ upd_same)) .nil) .nil))⟩⟩
    rcases two m0 m1 with rfl | rfl
    · exact ⟨l, _, 0, .str "and", rfl, rfl, SqL.of l4, rfl, fin "and" (.and []) rfl ⟨Nat.zero_le _, fun _ h => nomatch h⟩⟩
    · exact ⟨l, _, 1, .str "or", rfl, rfl, SqL.of l4, rfl, fin "or" (.or []) rfl ⟨Nat.zero_le _, fun _ h => nomatch h⟩⟩
  refine ite_nb (decide_eq_false (fun z => c3 (V.int.inj z))) ?_
  refine ⟨_, rfl, _, _, rfl, rfl, _, rfl, ?_⟩
  by_cases c6 : k < 6
  · refine ite_b (decide_eq_true c6) ?_
    have ei : V.int (if (decide (V.int (e : Int) = V.int 1)) then 1 else 0) = V.int (if e = 1 then 1 else 0) := by
      by_cases e1 : e = 1
      · rw [e1]
        rfl
      · rw [if_neg e1, if_neg (fun z => e1 (by have := V.int.inj (of_decide_eq_true z); omega))]
    refine ⟨_, rfl, _, rfl, rfl, .inr ⟨_, rfl, ?_⟩⟩
    rw [ei]
    obtain ⟨eb, heb⟩ : ∃ eb : Int, eb = if e = 1 then 1 else 0 := ⟨_, rfl⟩
    rw [← heb]
    have heb2 : 0 ≤ eb ∧ eb ≤ 1 := by
      rw [heb]
      by_cases e1 : e = 1
      · rw [if_pos e1]; decide
      · rw [if_neg e1]; decide
    refine ⟨_, _, rfl, rfl, .inl ⟨by decide, by decide⟩, _, _, rfl, rfl, _, _, rfl, _, S, _, rfl, g1.fh, g1.nf, g1.st, rfl, by omega, by omega, fun H2 m grH2 stH2 m0 m1 => ?_⟩
    have g2 := g1.trans (⟨grH2, stH2, g1.nf⟩ : Gs S F0 H1 F0 H2)
    refine ⟨_, _, rfl, rfl, ?_⟩
    have hmn5 : (2 + m).toNat ≤ 5 := by omega
    refine ⟨(by show 2 ≤ sizeLine; decide), fun l hl => ?_⟩
    have g3 := g2.new (o := .lst [.str "and", .str "or"]) hl
    have l3 : upd H2 l (.lst [.str "and", .str "or"]) l = some (.lst [.str "and", .str "or"]) := upd_same
    have fin : ∀ (x : Str) (mk : List Rk → Rk), (∀ rs, Rk.d (mk rs) = .tuple [.str x, .tuple (rs.map Rk.d)]) → (∀ rs : List Rk, rs.length ≤ 10 → (∀ r ∈ rs, r.Ok N Hs e) → (mk rs).Ok N Hs (e + 1)) → ∀ F9 H9 acc (rs : List Rk) (D : Addr), Gs S F0 H F9 H9 → Das K F9 acc (rs.map Rk.d) → rs.length ≤ 10 → (∀ r ∈ rs, r.Ok N Hs e) → H9 D = some (.lst acc) →
        ((SqL K H9 D acc ∧ ∀ l, H9 l = none → (2 ≤ sizeLine ∧ ∀ t, upd H9 l (.tup acc) t = none → Q (.ref t) (upd (upd H9 l (.tup acc)) t (.tup [.str x, .ref l])))) ∨ SqT K H9 D acc ∧ (2 ≤ sizeLine ∧ ∀ t, H9 t = none → Q (.ref t) (upd H9 t (.tup [.str x, .ref D])))) := fun x mk ed om F9 H9 acc rs D g9 da rl ro hD => .inl ⟨SqL.of hD, fun t5 h5 => ⟨by decide, fun t ht => by
      have g5 := g9.newF (o := .tup acc) h5
      have sf5 := Same.new (o := .tup acc) (g9.fh.free h5)
      have g6 := g5.newF (o := .tup [.str x, .ref t5]) ht
      have sf6 := Same.new (o := .tup [.str x, .ref t5]) (g5.fh.free ht)
      refine q _ _ _ (mk rs) g6 ?_ (om rs rl ro)
      rw [ed]
      exact .tup (SqT.of upd_same) (.cons (.str _) (.cons (.tup (SqT.of (sf6 _ _ upd_same)) ((da.mono sf5).mono sf6)) .nil))⟩⟩
    have lst : ∀ (x : Str) (mk : List Rk → Rk), (∀ rs, Rk.d (mk rs) = .tuple [.str x, .tuple (rs.map Rk.d)]) → (∀ rs : List Rk, rs.length ≤ 10 → (∀ r ∈ rs, r.Ok N Hs e) → (mk rs).Ok N Hs (e + 1)) → True := fun _ _ _ _ => trivial
    have hk45 : k = 4 ∨ k = 5 := by omega
    rcases hk45 with rfl | rfl
    · refine ⟨_, rfl, _, _, rfl, rfl, l, _, 0, .str "and", rfl, rfl, SqL.of l3, rfl, _, rfl, (2 + m), rfl, by omega, by omega, fun D hD => ?_⟩
      refine lc_range (lo := 0) (n := (2 + m).toNat) (fun i H' => ∃ F' acc rs, Gs S F0 H F' H' ∧ F' D = none ∧ H' D = some (.lst acc) ∧ Das K F' acc (rs.map Rk.d) ∧ rs.length = i ∧ ∀ r ∈ rs, r.Ok N Hs e) ⟨F0, [], [], g3.new hD, g3.fh.free hD, upd_same, .nil, rfl, fun _ h => nomatch h⟩ ?_ ?_
      · rintro i H' hi ⟨F', acc, rs, g, nD, hD', da, rl, ro⟩
        refine ⟨rfl, _, rfl, _, rfl, _, rfl, _, rfl, _, _, rfl, rfl, _, _, _, _, rfl, _, S, N, Hs, rfl, g.sub, ⟨nma, rfl, g.kp nm1' g0.st, nm2, nm3⟩, ⟨hda, rfl, g.kp hd1' g0.st, hd2, hd3⟩, hHs, by omega, by omega, rfl, fun F2 H4 v r gH4 dH4 oH4 => ?_⟩
        have hD4 := gH4.gr.kp _ _ hD' (stt_ne g3.st hD)
        have nD4 := gH4.gr.non hD' nD
        have hDH : H D = none := g3.gr.th _ hD
        refine ⟨acc, hD4, ?_, F2, acc ++ [v], rs ++ [r], (g.trans gH4).set nD4 hD4 hDH (stt_ne g3.st hD), nD4, upd_same, ?_, ?_, fun y hy => ?_⟩
        · have := da.lenM
          rw [sizeLine_eq]
          omega
        · rw [List.map_append]
          exact (da.mono gH4.ff).app (.cons dH4 .nil)
        · rw [List.length_append, rl]
          rfl
        · rcases List.mem_append.mp hy with z | z
          · exact ro y z
          · rw [List.mem_singleton.mp z]
            exact oH4
      · rintro H' ⟨F', acc, rs, g, nD, hD', da, rl, ro⟩
        exact ⟨D, acc, rfl, fin "and" Rk.and (fun rs => by show PyData.tuple [.str "and", .tuple (Rk.ds rs)] = _; rw [Rk.ds_eq]) (fun rs h1 h2 => ⟨h1, h2⟩) F' H' acc rs D g da (by omega) ro hD'⟩
    · refine ⟨_, rfl, _, _, rfl, rfl, l, _, 1, .str "or", rfl, rfl, SqL.of l3, rfl, _, rfl, (2 + m), rfl, by omega, by omega, fun D hD => ?_⟩
      refine lc_range (lo := 0) (n := (2 + m).toNat) (fun i H' => ∃ F' acc rs, Gs S F0 H F' H' ∧ F' D = none ∧ H' D = some (.lst acc) ∧ Das K F' acc (rs.map Rk.d) ∧ rs.length = i ∧ ∀ r ∈ rs, r.Ok N Hs e) ⟨F0, [], [], g3.new hD, g3.fh.free hD, upd_same, .nil, rfl, fun _ h => nomatch h⟩ ?_ ?_
      · rintro i H' hi ⟨F', acc, rs, g, nD, hD', da, rl, ro⟩
        refine ⟨rfl, _, rfl, _, rfl, _, rfl, _, rfl, _, _, rfl, rfl, _, _, _, _, rfl, _, S, N, Hs, rfl, g.sub, ⟨nma, rfl, g.kp nm1' g0.st, nm2, nm3⟩, ⟨hda, rfl, g.kp hd1' g0.st, hd2, hd3⟩, hHs, by omega, by omega, rfl, fun F2 H4 v r gH4 dH4 oH4 => ?_⟩
        have hD4 := gH4.gr.kp _ _ hD' (stt_ne g3.st hD)
        have nD4 := gH4.gr.non hD' nD
        have hDH : H D = none := g3.gr.th _ hD
        refine ⟨acc, hD4, ?_, F2, acc ++ [v], rs ++ [r], (g.trans gH4).set nD4 hD4 hDH (stt_ne g3.st hD), nD4, upd_same, ?_, ?_, fun y hy => ?_⟩
        · have := da.lenM
          rw [sizeLine_eq]
          omega
        · rw [List.map_append]
          exact (da.mono gH4.ff).app (.cons dH4 .nil)
        · rw [List.length_append, rl]
          rfl
        · rcases List.mem_append.mp hy with z | z
          · exact ro y z
          · rw [List.mem_singleton.mp z]
            exact oH4
      · rintro H' ⟨F', acc, rs, g, nD, hD', da, rl, ro⟩
        exact ⟨D, acc, rfl, fin "or" Rk.or (fun rs => by show PyData.tuple [.str "or", .tuple (Rk.ds rs)] = _; rw [Rk.ds_eq]) (fun rs h1 h2 => ⟨h1, h2⟩) F' H' acc rs D g da (by omega) ro hD'⟩
  refine ite_nb (decide_eq_false c6) ?_
  refine ⟨_, rfl, _, rfl, _, _, rfl, _, S, nma, _, rfl, g1.fh, g1.nf, g1.st, rfl, nm1, nm2, nm3, fun F9 H9 v9 sm9 grH9 stH9 dH9 oH9 => ?_⟩
  have g9 := g1.trans (⟨grH9, stH9, grH9.nonS g1.st g1.nf⟩ : Gs S _ _ F9 H9)
  refine ⟨(by show 2 ≤ sizeLine; decide), fun t ht => q _ _ _ (.most sm9) (g9.newF ht) (.tup (SqT.of upd_same) (.cons (.str _) (.cons (dH9.mono (Same.new (g9.fh.free ht))) .nil))) oH9⟩
theorem ok_remark (F : FunAt K mg "_law_remark" s_l_remark) (G : Glb K mg) (c_law_take : Cal P w K mg base "_law_take" 1 ["_law_state_here", "_law_many"] (spTake K)) (c_law_sum : Cal P w K mg base "_law_sum" 3 ["_law_state_here", "_law_names"] (spSum K)) :
    ∀ e, Cal P w K mg base "_law_remark" (e + 4) ["_law_state_here", "_law_names", "_law_hands", "_law_deep"] (spRem K e)
  | 0 => F.none (fun _ _ _ _ _ _ us hl => match us, hl with | [_, _, _, _], _ => rfl) fun vs H Q E ⟨_, _, _, _, _, _, _, _, _, _, _, _, _, _, z, _⟩ => absurd z (by decide)
  | e + 1 => remark_step F G c_law_take c_law_sum (ok_remark F G c_law_take c_law_sum e)
end
end Ca
namespace Ca
open PySem L2
abbrev s_l_plain : Stmt := top 55
abbrev N_l_plain : List Str := ["_law_state_here", "_law_made", "_law_mine", "_law_kind", "_law_sets", "_law_name_here"]
theorem sc_l_plain : FnScope N_l_plain ["_law_state_here", "_law_made", "_law_mine"] (defScope s_l_plain) := ⟨rfl, rfl, rfl, by decide +kernel, rfl, by decide +kernel, by decide +kernel⟩
-- cells: []  slots: 0=_law_state_here 1=_law_made 2=_law_mine 3=_law_kind 4=_law_sets 5=_law_name_here
structure EnG (E : En) : Prop where
  m0 : 1 ≤ E.mine.length
  m1 : E.mine.length ≤ 6
  l1 : E.locks.length ≤ 4
  a1 : E.all.length ≤ 10
  h0 : 1 ≤ E.hands.length
  h1 : E.hands.length ≤ 10
  nd : E.mine.Nodup
  sm : ∀ x ∈ E.mine, PyData.strOk x = true
  sl : ∀ x ∈ E.locks, PyData.strOk x = true
  sa : ∀ x ∈ E.all, PyData.strOk x = true
  sh : ∀ x ∈ E.hands, PyData.strOk x = true
/-- the lists that the generator reads -/
structure MdAt (F : Hp) (made mine : V) (E : En) (m lk hk ak mi : Addr) : Prop where
  e1 : made = .ref m
  e2 : mine = .ref mi
  md : F m = some (.dK [(.inr "locks", .ref lk), (.inr "hands", .ref hk), (.inr "all", .ref ak)])
  lo : F lk = some (.lst (E.locks.map V.str))
  ha : F hk = some (.lst (E.hands.map V.str))
  al : F ak = some (.lst (E.all.map V.str))
  mi_ : F mi = some (.lst (E.mine.map V.str))
  en : EnG E
section
variable {F H F' : Hp} {made mine : V} {E : En} {m lk hk ak mi : Addr}
theorem MdAt.mono (a : MdAt F made mine E m lk hk ak mi) (e : Same F F') : MdAt F' made mine E m lk hk ak mi := ⟨a.e1, a.e2, e _ _ a.md, e _ _ a.lo, e _ _ a.ha, e _ _ a.al, e _ _ a.mi_, a.en⟩
theorem MdAt.gl (a : MdAt F made mine E m lk hk ak mi) (e : Same F H) : DGet H m (.str "locks") (some (.ref lk)) := by
  have z := DGet.k (k := .inr "locks") (e _ _ a.md)
  exact z
theorem MdAt.gh (a : MdAt F made mine E m lk hk ak mi) (e : Same F H) : DGet H m (.str "hands") (some (.ref hk)) := by
  have z := DGet.k (k := .inr "hands") (e _ _ a.md)
  exact z
theorem MdAt.ga (a : MdAt F made mine E m lk hk ak mi) (e : Same F H) : DGet H m (.str "all") (some (.ref ak)) := by
  have z := DGet.k (k := .inr "all") (e _ _ a.md)
  exact z
theorem MdAt.okml (a : MdAt F made mine E m lk hk ak mi) : ∀ x ∈ E.mine ++ E.locks, PyData.strOk x = true := fun x hx => by
  rcases List.mem_append.mp hx with z | z
  · exact a.en.sm x z
  · exact a.en.sl x z
end
section
variable {P : Program} {w : World} {K : PySem.W.Frag} {mg : Str → Option Value} {base : Heap}
def spPlainG (K : PySem.W.Frag) : Sp := Sp3 fun st made mine H Q => ∃ (F : Hp) (S : Addr) (E : En) (m lk hk ak mi : Addr), st = .ref S ∧ Gs S F H F H ∧ MdAt F made mine E m lk hk ak mi ∧
  ∀ F' H' v (r : Row), Gs S F H F' H' → Da K F' v r.d → r.plain = true → r.Ok E 1 → Q v H'
theorem set_lay {N : List Str} {ss : List (Str × Sm)} (h : ∀ p ∈ ss, PyData.strOk p.1 = true ∧ p.2.Ok N) : SeqAt.shaped (.list (ss.map sd)) = true :=
  (lay_lst (lay_m fun p hp => lay_tup (lay2 (lay_str (h p hp).1) (Sm.lay (h p hp).2)))).shaped (by decide : 5 ≤ 64)
theorem ok_plainG (F : FunAt K mg "_law_plain" s_l_plain) (G : Glb K mg) (c_law_take : Cal P w K mg base "_law_take" 1 ["_law_state_here", "_law_many"] (spTake K)) (c_law_sum : Cal P w K mg base "_law_sum" 3 ["_law_state_here", "_law_names"] (spSum K))
    (c_law_remark : Cal P w K mg base "_law_remark" 6 ["_law_state_here", "_law_names", "_law_hands", "_law_deep"] (spRem K 2)) : Cal P w K mg base "_law_plain" 7 ["_law_state_here", "_law_made", "_law_mine"] (spPlainG K) := by
  refine F.cal sc_l_plain Sp3.len (fun _ _ _ _ _ _ us hl => match us, hl with | [_, _, _], _ => rfl) fun f cdv A outer s H vs Q E hr h => ?_
  have nd := sc_l_plain.nd
  have hu := hu_of hr
  have m_len := G.len
  have m_list := G.list
  have m_reversed := G.reversed
  have m_tuple := G.tuple
  refine ⟨_, (pss_cons (ps_set (i := 3) nd rfl (Or.inl rfl) (pe_cal c_law_take hr rfl (pa_cons (pv 0) (pa_cons pe_int pa_nil))))
    (Evl.pss_cut (ps_if (PW.pt (pw_and (pt_cmpR op_eq (pv 3) pe_int (nomark _)) (pw_and1 (pt_cmpR op_gt (pe_callB call_len_seq (by rfl) m_len (by decide +kernel) (pa_cons (pe_dget hu (pv 1) pe_str (fun _ _ => rfl)) pa_nil)) pe_int (nomark _))))) (pss_one (ps_ret (pe_tup (pa_cons (pe_ix ix_list (pe_lst (pa_cons pe_str (pa_cons pe_str pa_nil))) (pe_cal c_law_take hr rfl (pa_cons (pv 0) (pa_cons pe_int pa_nil))) (fun _ _ => rfl)) (pa_cons (pe_ix ix_list (pe_dget hu (pv 1) pe_str (fun _ _ => rfl)) (pe_cal c_law_take hr rfl (pa_cons (pv 0) (pa_cons (pe_callB call_len_seq (by rfl) m_len (by decide +kernel) (pa_cons (pe_dget hu (pv 1) pe_str (fun _ _ => rfl)) pa_nil)) pa_nil))) (fun _ _ => rfl)) pa_nil))))) pss_nil)
    (pss_cons (ps_if (pt_cmpR op_eq (pv 3) pe_int (nomark _)) (pss_one (ps_ret (pe_tup (pa_cons pe_str (pa_cons (pe_cal c_law_remark hr rfl (pa_cons (pv 0) (pa_cons (pe_op op_cat (pv 2) (pe_dget hu (pv 1) pe_str (fun _ _ => rfl))) (pa_cons (pe_dget hu (pv 1) pe_str (fun _ _ => rfl)) (pa_cons pe_int pa_nil))))) pa_nil))))) pss_nil)
    (pss_cons (ps_set (i := 4) nd rfl (Or.inl rfl) (pe_lst pa_nil))
    (Evl.pss_cut (ps_for PassesOwn.never rfl (pi_list (pv 2)) (pg_name (i := 5) nd rfl (Or.inl rfl))
      (pss_one (ps_if (PW.pt (pw_or (pt_cmpR op_eq (pe_cal c_law_take hr rfl (pa_cons (pv 0) (pa_cons pe_int pa_nil))) pe_int (nomark _)) (pw_or1 (PW.pt (pw_and (pt_cmpR (op_eqD hr.units) (pv 4) (pe_lst pa_nil) (nomark _)) (pw_and1 (pt_cmpR op_eq (pv 5) (pe_ix ix_list (pv 2) (pe_un un_neg pe_int) (fun _ _ => rfl)) (nomark _)))))))) (pss_one (ps_expr (pe_bm PySem.F.plainAttrs_list PySem.F.slot_list_append PySem.F.type_list_append mt_append (pv 4) (pa_cons (pe_tup (pa_cons (pv 5) (pa_cons (pe_cal c_law_sum hr rfl (pa_cons (pv 0) (pa_cons (pe_op op_cat (pv 2) (pe_dget hu (pv 1) pe_str (fun _ _ => rfl))) pa_nil))) pa_nil))) pa_nil)))) pss_nil)))
    (Evl.pss_cut (ps_if (pt_cmpR op_eq (pe_cal c_law_take hr rfl (pa_cons (pv 0) (pa_cons pe_int pa_nil))) pe_int (nomark _)) (pss_one (ps_set (i := 4) nd rfl (Or.inl rfl) (pe_lstRev rfl (by rfl) m_list (by rfl) m_reversed (pv 4)))) pss_nil)
    (pss_one (ps_ret (pe_tup (pa_cons pe_str (pa_cons (pe_callTy call_tuple_of (by rfl) m_tuple (by decide +kernel) (pa_cons (pv 4) pa_nil)) pa_nil))))))))))), ?_⟩
  obtain ⟨st, made, mine, rfl, F0, S, E0, m, lk, hk, ak, mi, rfl, g0, mA, q⟩ := h
  obtain rfl := mA.e1
  obtain rfl := mA.e2
  have e0 := mA.en
  refine ⟨_, rfl, _, _, rfl, _, S, 6, rfl, g0.fh, g0.nf, g0.st, rfl, by decide, by decide, fun H1 k grH1 stH1 k0 k1 => ?_⟩
  have g1 : Gs S F0 H F0 H1 := ⟨grH1, stH1, g0.nf⟩
  have hl4 := e0.l1
  have hm6 := e0.m1
  have hm0 := e0.m0
  have lll : (E0.locks.map V.str).length = E0.locks.length := List.length_map _
  have mml : (E0.mine.map V.str).length = E0.mine.length := List.length_map _
  -- take, give
  have c0 : (k = 0 ∧ 0 < E0.locks.length) ∨ ¬ (k = 0 ∧ 0 < E0.locks.length) := Classical.em _
  refine ⟨fun σ' H' => σ' = [some (.ref S), some (.ref m), some (.ref mi), some (.int k), none, none] ∧ H' = H1, ?_, ?_⟩
  · refine ⟨_, rfl, rfl, _, rfl, ?_⟩
    by_cases k0' : k = 0
    rotate_left
    · exact ite_nb (decide_eq_false (fun z => k0' (V.int.inj z))) ⟨rfl, rfl⟩
    refine ite_b (decide_eq_true (congrArg V.int k0')) ?_
    refine ⟨_, rfl, m, _, rfl, mA.gl g1.fh, lk, _, rfl, .inl (SqL.of (g1.fh _ _ mA.lo)), _, _, rfl, rfl, _, rfl, ?_⟩
    by_cases kl : 0 < E0.locks.length
    rotate_left
    · exact ite_nb (decide_eq_false (by rw [lll]; omega)) ⟨rfl, rfl⟩
    refine ite_b (decide_eq_true (by rw [lll]; omega)) ?_
    refine ⟨(by show 2 ≤ sizeLine; decide), fun l hl => ?_⟩
    have g2 := g1.new (o := .lst [.str "take", .str "give"]) hl
    refine ⟨_, rfl, _, _, rfl, _, S, 2, rfl, g2.fh, g2.nf, g2.st, rfl, by decide, by decide, fun H3 j grH3 stH3 j0 j1 => ?_⟩
    have g3 := g2.trans (⟨grH3, stH3, g2.nf⟩ : Gs S F0 _ F0 H3)
    have l3 : H3 l = some (.lst [.str "take", .str "give"]) := grH3.kp _ _ upd_same (stt_ne g1.st hl)
    have tail : ∀ (x : Str) (mk : Str → Row), (∀ y, (mk y).d = .tuple [.str x, .str y]) → (∀ y, (mk y).plain = true) → (∀ y, y ∈ E0.locks ∧ PyData.strOk y = true → (mk y).Ok E0 1) → ∀ H4 (i : Int), Gs S F0 H F0 H4 → 0 ≤ i → i < ((E0.locks.map V.str).length : Nat) → ∃ p xs j v, V.ref lk = .ref p ∧ V.int i = .int j ∧ SqL K H4 p xs ∧ atI xs j = some v ∧ (2 ≤ sizeLine ∧ ∀ t, H4 t = none → Q (.ref t) (upd H4 t (.tup [.str x, v]))) := fun x mk ed pl om H4 i g4 i0 i1 => by
      obtain ⟨n, rfl⟩ := Int.eq_ofNat_of_zero_le i0
      have hn : n < E0.locks.length := by rw [lll] at i1; omega
      have hv : (E0.locks.map V.str)[n]? = some (.str (E0.locks[n])) := by rw [List.getElem?_map, List.getElem?_eq_getElem hn]; rfl
      refine ⟨lk, _, _, _, rfl, rfl, SqL.of (g4.fh _ _ mA.lo), atI_nat hv, by decide, fun t ht => q _ _ _ (mk (E0.locks[n])) (g4.newF ht) ?_ (pl _) (om _ ⟨List.getElem_mem hn, e0.sl _ (List.getElem_mem hn)⟩)⟩
      rw [ed]
      exact .tup (SqT.of upd_same) (.cons (.str _) (.cons (.str _) .nil))
    rcases two j0 j1 with rfl | rfl
    · refine ⟨l, _, 0, .str "take", rfl, rfl, SqL.of l3, rfl, _, rfl, m, _, rfl, mA.gl g3.fh, _, rfl, _, rfl, m, _, rfl, mA.gl g3.fh, lk, _, rfl, .inl (SqL.of (g3.fh _ _ mA.lo)), _, _, rfl, _, S, _, rfl, g3.fh, g3.nf, g3.st, rfl, by omega, by omega, fun H4 i grH4 stH4 i0 i1 => ?_⟩
      exact tail "take" .take (fun _ => rfl) (fun _ => rfl) (fun _ o => o) H4 i (g3.trans ⟨grH4, stH4, g3.nf⟩) i0 i1
    · refine ⟨l, _, 1, .str "give", rfl, rfl, SqL.of l3, rfl, _, rfl, m, _, rfl, mA.gl g3.fh, _, rfl, _, rfl, m, _, rfl, mA.gl g3.fh, lk, _, rfl, .inl (SqL.of (g3.fh _ _ mA.lo)), _, _, rfl, _, S, _, rfl, g3.fh, g3.nf, g3.st, rfl, by omega, by omega, fun H4 i grH4 stH4 i0 i1 => ?_⟩
      exact tail "give" .give (fun _ => rfl) (fun _ => rfl) (fun _ o => o) H4 i (g3.trans ⟨grH4, stH4, g3.nf⟩) i0 i1
  rintro σ' H' ⟨rfl, rfl⟩
  refine ⟨_, rfl, rfl, _, rfl, ?_⟩
  by_cases k1' : k = 1
  · refine ite_b (decide_eq_true (congrArg V.int k1')) ?_
    refine ⟨_, rfl, _, rfl, _, rfl, m, _, rfl, mA.gl g1.fh, mi, lk, _, _, rfl, rfl, g1.fh _ _ mA.mi_, g1.fh _ _ mA.lo, by rw [lll, mml, sizeLine_eq]; omega, fun l hl => ?_⟩
    have g2 := g1.new (o := .lst (E0.mine.map V.str ++ E0.locks.map V.str)) hl
    refine ⟨_, rfl, m, _, rfl, mA.gh g2.fh, _, _, _, _, rfl, F0, S, E0.mine ++ E0.locks, E0.hands, rfl, g2.sub, ⟨l, rfl, by rw [upd_same, List.map_append], by rw [List.length_append]; omega, mA.okml⟩, ⟨hk, rfl, g2.fh _ _ mA.ha, e0.h1, e0.sh⟩, e0.h0, by decide, by decide, rfl, fun F3 H3 v r g3 d3 o3 => ?_⟩
    have g4 := g2.trans g3
    exact ⟨(by show 2 ≤ sizeLine; decide), fun t ht => q _ _ _ (.wait r) (g4.newF ht) (.tup (SqT.of upd_same) (.cons (.str _) (.cons (d3.mono (Same.new (g4.fh.free ht))) .nil))) rfl o3⟩
  refine ite_nb (decide_eq_false (fun z => k1' (V.int.inj z))) ?_
  refine ⟨Nat.zero_le _, fun L hL => ?_⟩
  have g2 := g1.new (o := .lst []) hL
  have hLH : H L = none := g1.gr.th _ hL
  have LS : L ≠ S := stt_ne g1.st hL
  refine ⟨fun σ' H' => ∃ (F' : Hp) (acc : List V) (ss : List (Str × Sm)) (x : Option V), σ' = [some (.ref S), some (.ref m), some (.ref mi), some (.int k), some (.ref L), x] ∧ Gs S F0 H F' H' ∧ F' L = none ∧ H' L = some (.lst acc) ∧ Das K F' acc (ss.map sd) ∧ (ss.map (·.1)).Sublist E0.mine ∧ ∀ p ∈ ss, p.2.Ok (E0.mine ++ E0.locks), ?_, ?_⟩
  · refine ⟨_, rfl, mi, rfl, ⟨_, SqL.of (g2.fh _ _ mA.mi_)⟩, for_list (K := K) (a := mi) (xs := E0.mine.map V.str) (fun i σ H' => ∃ (F' : Hp) (acc : List V) (ss : List (Str × Sm)) (x : Option V), σ = [some (.ref S), some (.ref m), some (.ref mi), some (.int k), some (.ref L), x] ∧ Gs S F0 H F' H' ∧ F' L = none ∧ H' L = some (.lst acc) ∧ Das K F' acc (ss.map sd) ∧ (ss.map (·.1)).Sublist (E0.mine.take i) ∧ ∀ p ∈ ss, p.2.Ok (E0.mine ++ E0.locks))
      ⟨F0, [], [], none, rfl, g2, g1.fh.free hL, upd_same, .nil, List.Sublist.refl _, fun _ h => nomatch h⟩ (fun i σ H' _ ⟨_, _, _, _, _, g, _⟩ => SqL.of (g.fh _ _ (g.ff _ _ mA.mi_))) ?_ ?_⟩
    · rintro i v σ H' hi ⟨F', acc, ss, x, rfl, g, nL, hL', da, sub, so⟩
      rw [List.getElem?_map] at hi
      cases hx : E0.mine[i]? with
      | none =>
        rw [hx] at hi
        cases hi
      | some n =>
        rw [hx] at hi
        cases hi
        have hn := List.mem_of_getElem? hx
        have htk : E0.mine.take (i + 1) = E0.mine.take i ++ [n] := by rw [List.take_succ, hx]; rfl
        have mF := mA.mono g.ff
        have ssl : ss.length ≤ 6 := by
          have z := sub.length_le
          rw [List.length_map, List.length_take] at z
          omega
        have hacc : acc.length = ss.length := da.lenM
        refine ⟨_, rfl, _, _, rfl, _, S, 2, rfl, g.fh, g.nf, g.st, rfl, by decide, by decide, fun H4 j grH4 stH4 j0 j1 => ?_⟩
        have g4 := g.trans (⟨grH4, stH4, g.nf⟩ : Gs S F' H' F' H4)
        have hL4 : H4 L = some (.lst acc) := grH4.kp _ _ hL' LS
        have skip : ∀ H5, Gs S F0 H F' H5 → H5 L = some (.lst acc) → ∃ (F' : Hp) (acc : List V) (ss : List (Str × Sm)) (x : Option V), [some (V.ref S), some (V.ref m), some (V.ref mi), some (V.int k), some (V.ref L), some (V.str n)] = [some (.ref S), some (.ref m), some (.ref mi), some (.int k), some (.ref L), x] ∧ Gs S F0 H F' H5 ∧ F' L = none ∧ H5 L = some (.lst acc) ∧ Das K F' acc (ss.map sd) ∧ (ss.map (·.1)).Sublist (E0.mine.take (i + 1)) ∧ ∀ p ∈ ss, p.2.Ok (E0.mine ++ E0.locks) := fun H5 g5 h5 =>
          ⟨F', acc, ss, _, rfl, g5, nL, h5, da, by rw [htk]; exact sub.trans (List.sublist_append_left _ _), so⟩
        refine ⟨rfl, _, rfl, ?_⟩
        have add : ∀ (X : Prop), True := fun _ => trivial
        by_cases j1' : j = 1
        · refine ite_b (decide_eq_true (congrArg V.int j1')) ?_
          refine ⟨_, rfl, .inl ⟨rfl, acc, SqL.of hL4⟩, _, rfl, _, rfl, _, rfl, _, rfl, m, _, rfl, mF.gl g4.fh, mi, lk, _, _, rfl, rfl, g4.fh _ _ mF.mi_, g4.fh _ _ mF.lo, by rw [lll, mml, sizeLine_eq]; omega, fun l6 hl6 => ?_⟩
          have g6 := g4.new (o := .lst (E0.mine.map V.str ++ E0.locks.map V.str)) hl6
          have hL6 := upd_at (u := .lst (E0.mine.map V.str ++ E0.locks.map V.str)) hL4 (ne_of_none hL4 hl6)
          refine ⟨_, _, rfl, F', S, l6, E0.mine ++ E0.locks, rfl, g6.fh, g6.nf, g6.st, rfl, by rw [upd_same, List.map_append], by rw [List.length_append]; omega, mA.okml, fun F7 H7 v sm gr7 st7 d7 o7 => ?_⟩
          have g7' : Gs S F' _ F7 H7 := ⟨gr7, st7, gr7.nonS g6.st g6.nf⟩
          have g7 := g6.trans g7'
          have hL7 : H7 L = some (.lst acc) := gr7.kp _ _ hL6 LS
          have nL7 : F7 L = none := gr7.non hL6 nL
          refine ⟨(by show 2 ≤ sizeLine; decide), fun t8 p8 => ?_⟩
          have g8 := g7.newF (o := .tup [.str n, v]) p8
          have sf8 := Same.new (o := .tup [.str n, v]) (g7.fh.free p8)
          have nLt : L ≠ t8 := ne_of_none hL7 p8
          have hL8 := upd_at (u := .tup [.str n, v]) hL7 nLt
          have nL8 : upd F7 t8 (.tup [.str n, v]) L = none := by rw [upd_ne nLt]; exact nL7
          refine ⟨L, acc, _, rfl, rfl, hL8, ?_, ?_⟩
          · rw [hacc, sizeLine_eq]
            omega
          · refine ⟨_, acc ++ [.ref t8], ss ++ [(n, sm)], _, rfl, g8.set nL8 hL8 hLH LS, nL8, upd_same, ?_, ?_, fun p hp => ?_⟩
            · rw [List.map_append]
              exact ((da.mono gr7.ff).mono sf8).app (.cons (.tup (SqT.of upd_same) (.cons (.str _) (.cons (d7.mono sf8) .nil))) .nil)
            · rw [htk, List.map_append]
              exact sub.append (List.Sublist.refl _)
            · rcases List.mem_append.mp hp with z | z
              · exact so p z
              · rw [List.mem_singleton.mp z]
                exact o7
        · refine ite_nb (decide_eq_false (fun z => j1' (V.int.inj z))) ?_
          refine ⟨_, rfl, Nat.zero_le _, fun l5 hl5 => ?_⟩
          have g5 := g4.new (o := .lst []) hl5
          have hL5 : upd H4 l5 (.lst []) L = some (.lst acc) := upd_at hL4 (ne_of_none hL4 hl5)
          refine ⟨.list (ss.map sd), .list [], .lst (SqL.of hL5) (da.mono g5.fh).dp, .lst (SqL.of upd_same) .nil, set_lay (fun p hp => ⟨e0.sm _ ((sub.trans (List.take_sublist _ _)).subset (List.mem_map.mpr ⟨p, hp, rfl⟩)), so p hp⟩), rfl, _, rfl, ?_⟩
          rw [eqv_nil]
          by_cases es : ss = []
          · refine ite_b (by rw [es]; rfl) ?_
            obtain ⟨lastv, hlast⟩ : ∃ z, atI (E0.mine.map V.str) (-1) = some (.str z) := by
              rcases List.eq_nil_or_concat E0.mine with e | ⟨xs, z, e⟩
              · rw [e] at hm0
                exact absurd hm0 (by decide)
              · refine ⟨z, ?_⟩
                rw [e, List.concat_eq_append, List.map_append]
                exact atI_last _ _
            refine ⟨_, rfl, _, rfl, _, rfl, mi, _, _, _, rfl, rfl, SqL.of (g5.fh _ _ mF.mi_), hlast, rfl, _, rfl, ?_⟩
            by_cases en : n = lastv
            · refine ite_b (decide_eq_true (congrArg V.str en)) ?_
              refine ⟨_, rfl, .inl ⟨rfl, acc, SqL.of hL5⟩, _, rfl, _, rfl, _, rfl, _, rfl, m, _, rfl, mF.gl g5.fh, mi, lk, _, _, rfl, rfl, g5.fh _ _ mF.mi_, g5.fh _ _ mF.lo, by rw [lll, mml, sizeLine_eq]; omega, fun l6 hl6 => ?_⟩
              have g6 := g5.new (o := .lst (E0.mine.map V.str ++ E0.locks.map V.str)) hl6
              have hL6 := upd_at (u := .lst (E0.mine.map V.str ++ E0.locks.map V.str)) hL5 (ne_of_none hL5 hl6)
              refine ⟨_, _, rfl, F', S, l6, E0.mine ++ E0.locks, rfl, g6.fh, g6.nf, g6.st, rfl, by rw [upd_same, List.map_append], by rw [List.length_append]; omega, mA.okml, fun F7 H7 v sm gr7 st7 d7 o7 => ?_⟩
              have g7' : Gs S F' _ F7 H7 := ⟨gr7, st7, gr7.nonS g6.st g6.nf⟩
              have g7 := g6.trans g7'
              have hL7 : H7 L = some (.lst acc) := gr7.kp _ _ hL6 LS
              have nL7 : F7 L = none := gr7.non hL6 nL
              refine ⟨(by show 2 ≤ sizeLine; decide), fun t8 p8 => ?_⟩
              have g8 := g7.newF (o := .tup [.str n, v]) p8
              have sf8 := Same.new (o := .tup [.str n, v]) (g7.fh.free p8)
              have nLt : L ≠ t8 := ne_of_none hL7 p8
              have hL8 := upd_at (u := .tup [.str n, v]) hL7 nLt
              have nL8 : upd F7 t8 (.tup [.str n, v]) L = none := by rw [upd_ne nLt]; exact nL7
              refine ⟨L, acc, _, rfl, rfl, hL8, ?_, ?_⟩
              · rw [hacc, sizeLine_eq]
                omega
              · refine ⟨_, acc ++ [.ref t8], ss ++ [(n, sm)], _, rfl, g8.set nL8 hL8 hLH LS, nL8, upd_same, ?_, ?_, fun p hp => ?_⟩
                · rw [List.map_append]
                  exact ((da.mono gr7.ff).mono sf8).app (.cons (.tup (SqT.of upd_same) (.cons (.str _) (.cons (d7.mono sf8) .nil))) .nil)
                · rw [htk, List.map_append]
                  exact sub.append (List.Sublist.refl _)
                · rcases List.mem_append.mp hp with z | z
                  · exact so p z
                  · rw [List.mem_singleton.mp z]
                    exact o7
            · exact ite_nb (decide_eq_false (fun z => en (V.str.inj z))) (skip _ g5 hL5)
          · exact ite_nb (by cases ss with | nil => exact absurd rfl es | cons _ _ => rfl) (skip _ g5 hL5)
    · rintro σ H' ⟨F', acc, ss, x, rfl, g, nL, hL', da, sub, so⟩
      rw [mml, List.take_length] at sub
      exact ⟨F', acc, ss, x, rfl, g, nL, hL', da, sub, so⟩
  rintro σ' H' ⟨F', acc, ss, x, rfl, g, nL, hL', da, sub, so⟩
  have ssl : ss.length ≤ 6 := by
    have z := sub.length_le
    rw [List.length_map] at z
    omega
  have ok : (Row.set ss).Ok E0 1 := ⟨by omega, e0.nd.sublist sub, fun p hp => ⟨sub.subset (List.mem_map.mpr ⟨p, hp, rfl⟩), e0.sm _ (sub.subset (List.mem_map.mpr ⟨p, hp, rfl⟩)), so p hp⟩⟩
  refine ⟨fun σ' H' => ∃ (F' : Hp) (acc : List V) (ss : List (Str × Sm)) (L2 : Addr) (x : Option V), σ' = [some (.ref S), some (.ref m), some (.ref mi), some (.int k), some (.ref L2), x] ∧ Gs S F0 H F' H' ∧ H' L2 = some (.lst acc) ∧ Das K F' acc (ss.map sd) ∧ (Row.set ss).Ok E0 1, ?_, ?_⟩
  · refine ⟨_, rfl, _, _, rfl, _, S, 2, rfl, g.fh, g.nf, g.st, rfl, by decide, by decide, fun H4 j grH4 stH4 j0 j1 => ?_⟩
    have g4 := g.trans (⟨grH4, stH4, g.nf⟩ : Gs S F' H' F' H4)
    have hL4 : H4 L = some (.lst acc) := grH4.kp _ _ hL' LS
    refine ⟨rfl, _, rfl, ?_⟩
    by_cases j1' : j = 1
    · refine ite_b (decide_eq_true (congrArg V.int j1')) ?_
      refine ⟨_, rfl, L, acc, rfl, SqL.of hL4, fun l2 hl2 => ?_⟩
      refine ⟨F', acc.reverse, ss.reverse, l2, x, rfl, g4.new hl2, upd_same, ?_, ?_⟩
      · rw [List.map_reverse]
        exact da.rev
      · refine ⟨by rw [List.length_reverse]; exact ok.1, ?_, fun p hp => ok.2.2 p (List.mem_reverse.mp hp)⟩
        rw [List.map_reverse]
        exact List.pairwise_reverse.mpr (ok.2.1.imp fun h => Ne.symm h)
    · exact ite_nb (decide_eq_false (fun z => j1' (V.int.inj z))) ⟨F', acc, ss, L, x, rfl, g4, hL4, da, ok⟩
  rintro σ' H' ⟨F', acc, ss, L2, x, rfl, g, hL', da, ok⟩
  refine ⟨_, rfl, L2, acc, rfl, .inl ⟨SqL.of hL', fun t1 p1 => ⟨(by show 2 ≤ sizeLine; decide), fun t2 p2 => ?_⟩⟩⟩
  have g5 := g.newF (o := .tup acc) p1
  have sf5 := Same.new (o := .tup acc) (g.fh.free p1)
  have g6 := g5.newF (o := .tup [.str "set", .ref t1]) p2
  have sf6 := Same.new (o := .tup [.str "set", .ref t1]) (g5.fh.free p2)
  exact q _ _ _ (.set ss) g6 (.tup (SqT.of upd_same) (.cons (.str _) (.cons (.tup (SqT.of (sf6 _ _ upd_same)) ((da.mono sf5).mono sf6)) .nil))) rfl ok
end
end Ca
namespace Ca
open PySem L2
abbrev s_l_rows : Stmt := top 56
abbrev N_l_rows : List Str := ["_law_state_here", "_law_made", "_law_mine", "_law_deep", "_law_many", "_law_rows_here", "_law_k"]
theorem sc_l_rows : FnScope N_l_rows ["_law_state_here", "_law_made", "_law_mine", "_law_deep", "_law_many"] (defScope s_l_rows) := ⟨rfl, rfl, rfl, by decide +kernel, rfl, by decide +kernel, by decide +kernel⟩
-- cells: []  slots: 0=_law_state_here 1=_law_made 2=_law_mine 3=_law_deep 4=_law_many 5=_law_rows_here 6=_law_k
abbrev s_l_statement : Stmt := top 57
abbrev N_l_statement : List Str := ["_law_state_here", "_law_made", "_law_mine", "_law_deep", "_law_kind", "_law_remark_here", "_law_rows_here", "_law_many", "_law_k"]
theorem sc_l_statement : FnScope N_l_statement ["_law_state_here", "_law_made", "_law_mine", "_law_deep"] (defScope s_l_statement) := ⟨rfl, rfl, rfl, by decide +kernel, rfl, by decide +kernel, by decide +kernel⟩
-- cells: ['_law_deep', '_law_made', '_law_mine', '_law_state_here']  slots: 0=_law_state_here 1=_law_made 2=_law_mine 3=_law_deep 4=_law_kind 5=_law_remark_here 6=_law_rows_here 7=_law_many 8=_law_k
abbrev s_l_rounds : Stmt := top 58
abbrev N_l_rounds : List Str := ["_law_state_here", "_law_made", "_law_mine", "_law_times", "_law_deep"]
theorem sc_l_rounds : FnScope N_l_rounds ["_law_state_here", "_law_made", "_law_mine", "_law_times", "_law_deep"] (defScope s_l_rounds) := ⟨rfl, rfl, rfl, by decide +kernel, rfl, by decide +kernel, by decide +kernel⟩
-- cells: []  slots: 0=_law_state_here 1=_law_made 2=_law_mine 3=_law_times 4=_law_deep
theorem Row.Ok.up {E : En} : ∀ (n : Nat) (r : Row), r.Ok E n → r.Ok E (n + 1)
  | 0, _, h => h.elim
  | n + 1, .set _, h => h
  | n + 1, .wait _, h => h
  | n + 1, .take _, h => h
  | n + 1, .give _, h => h
  | n + 1, .say _, h => h
  | n + 1, .iff r a b, h => ⟨h.1, h.2.1, fun x hx => Row.Ok.up n x (h.2.2.1 x hx), h.2.2.2.1, fun x hx => Row.Ok.up n x (h.2.2.2.2 x hx)⟩
  | n + 1, .whl r a, h => ⟨h.1, h.2.1, fun x hx => Row.Ok.up n x (h.2.2 x hx)⟩
  | n + 1, .rounds k a, h => ⟨h.1, h.2.1, h.2.2.1, fun x hx => Row.Ok.up n x (h.2.2.2 x hx)⟩
  | n + 1, .either ws, h => ⟨h.1, h.2.1, fun w hw => ⟨(h.2.2 w hw).1, fun x hx => Row.Ok.up n x ((h.2.2 w hw).2 x hx)⟩⟩
  | n + 1, .label _, h => h.elim
  | n + 1, .skip, h => h.elim
theorem Row.Ok.le {E : En} {r : Row} {n m : Nat} (h : r.Ok E n) (e : n ≤ m) : r.Ok E m := by
  induction e with
  | refl => exact h
  | step _ ih => exact Row.Ok.up _ r ih
theorem Rk.Ok.mono {N N' Hs : List Str} (e : ∀ x ∈ N, x ∈ N') : ∀ (n : Nat) (r : Rk), r.Ok N Hs n → r.Ok N' Hs n
  | 0, _, h => h.elim
  | n + 1, .most s, h => ⟨h.1, fun p hp => ⟨e _ (h.2 p hp).1, (h.2 p hp).2⟩⟩
  | n + 1, .rest s m, h => ⟨⟨h.1.1, fun p hp => ⟨e _ (h.1.2 p hp).1, (h.1.2 p hp).2⟩⟩, h.2⟩
  | n + 1, .at _ _, h => h
  | n + 1, .not r, h => Rk.Ok.mono e n r h
  | n + 1, .and rs, h => ⟨h.1, fun r hr => Rk.Ok.mono e n r (h.2 r hr)⟩
  | n + 1, .or rs, h => ⟨h.1, fun r hr => Rk.Ok.mono e n r (h.2 r hr)⟩
theorem plain_up {E : En} {r : Row} (p : r.plain = true) (h : r.Ok E 1) {n : Nat} (hn : 1 ≤ n) : r.Ok E n := h.le hn
section
variable {P : Program} {w : World} {K : PySem.W.Frag} {mg : Str → Option Value} {base : Heap}
def spStmG (K : PySem.W.Frag) (n : Nat) : Sp := Sp4 fun st made mine deep H Q => ∃ (F : Hp) (S : Addr) (E : En) (m lk hk ak mi : Addr) (i : Nat), st = .ref S ∧ Gs S F H F H ∧ MdAt F made mine E m lk hk ak mi ∧ 1 ≤ i ∧ i ≤ n ∧ deep = .int ((i : Int) - 1) ∧
  ∀ F' H' v (r : Row), Gs S F H F' H' → Da K F' v r.d → r.mark = false → r.Ok E i → Q v H'
def spRowsG (K : PySem.W.Frag) (n : Nat) : Sp := Sp5 fun st made mine deep many H Q => ∃ (F : Hp) (S : Addr) (E : En) (m lk hk ak mi : Addr) (i k : Nat), st = .ref S ∧ Gs S F H F H ∧ MdAt F made mine E m lk hk ak mi ∧ 1 ≤ i ∧ i ≤ n ∧ deep = .int ((i : Int) - 1) ∧ many = .int k ∧ k ≤ 3 ∧
  ∀ F' H' v (rs : List Row), Gs S F H F' H' → Da K F' v (rd rs) → rs.length ≤ 2 * k → (∀ x ∈ rs, x.Ok E i) → Q v H'
def spRoundsG (K : PySem.W.Frag) (n : Nat) : Sp := Sp5 fun st made mine times deep H Q => ∃ (F : Hp) (S : Addr) (E : En) (m lk hk ak mi : Addr) (i : Nat) (t : Int), st = .ref S ∧ Gs S F H F H ∧ MdAt F made mine E m lk hk ak mi ∧ 1 ≤ i ∧ i ≤ n ∧ deep = .int ((i : Int) - 1) ∧ times = .int t ∧ 0 ≤ t ∧ t ≤ 3 ∧
  ∀ F' H' v (r : Row), Gs S F H F' H' → Da K F' v r.d → r.mark = false → r.Ok E (i + 1) → Q v H'
theorem rows_g {n : Nat} (F : FunAt K mg "_law_rows" s_l_rows) (G : Glb K mg) (c_law_take : Cal P w K mg base "_law_take" 1 ["_law_state_here", "_law_many"] (spTake K)) (c_law_remark : Cal P w K mg base "_law_remark" 6 ["_law_state_here", "_law_names", "_law_hands", "_law_deep"] (spRem K 2))
    (c_law_statement : Cal P w K mg base "_law_statement" (3 * n + 7) ["_law_state_here", "_law_made", "_law_mine", "_law_deep"] (spStmG K n)) : Cal P w K mg base "_law_rows" (3 * n + 8) ["_law_state_here", "_law_made", "_law_mine", "_law_deep", "_law_many"] (spRowsG K n) := by
  refine F.cal sc_l_rows Sp5.len (fun _ _ _ _ _ _ us hl => match us, hl with | [_, _, _, _, _], _ => rfl) fun f cdv A outer s H vs Q E hr h => ?_
  have nd := sc_l_rows.nd
  have hu := hu_of hr
  have m_range := G.range
  refine ⟨_, (pss_cons (ps_set (i := 5) nd rfl (Or.inl rfl) (pe_lst pa_nil))
    (pss_cons (ps_for PassesOwn.never rfl (pi_range1 rfl m_range (pa_cons (pe_cal c_law_take hr rfl (pa_cons (pv 0) (pa_cons (pe_op op_add (pv 4) pe_int) pa_nil))) pa_nil)) (pg_name (i := 6) nd rfl (Or.inl rfl))
      (Evl.pss_cut (ps_if (pt_cmpR op_eq (pe_cal c_law_take hr rfl (pa_cons (pv 0) (pa_cons pe_int pa_nil))) pe_int (nomark _)) (pss_one (ps_expr (pe_bm PySem.F.plainAttrs_list PySem.F.slot_list_append PySem.F.type_list_append mt_append (pv 5) (pa_cons (pe_tup (pa_cons pe_str (pa_cons (pe_cal c_law_remark hr rfl (pa_cons (pv 0) (pa_cons (pe_dget hu (pv 1) pe_str (fun _ _ => rfl)) (pa_cons (pe_dget hu (pv 1) pe_str (fun _ _ => rfl)) (pa_cons pe_int pa_nil))))) pa_nil))) pa_nil)))) pss_nil)
      (pss_one (ps_expr (pe_bm PySem.F.plainAttrs_list PySem.F.slot_list_append PySem.F.type_list_append mt_append (pv 5) (pa_cons (pe_cal c_law_statement hr rfl (pa_cons (pv 0) (pa_cons (pv 1) (pa_cons (pv 2) (pa_cons (pv 3) pa_nil))))) pa_nil))))))
    (pss_one (ps_ret (pv 5))))), ?_⟩
  obtain ⟨st, made, mine, deep, many, rfl, F0, S, E0, m, lk, hk, ak, mi, ix, k0, rfl, g0, mA, i1, i2, rfl, rfl, hk3, q⟩ := h
  obtain rfl := mA.e1
  obtain rfl := mA.e2
  have e0 := mA.en
  refine ⟨Nat.zero_le _, fun L hL => ?_⟩
  have g1 := g0.new (o := .lst []) hL
  have LS : L ≠ S := stt_ne g0.st hL
  refine ⟨_, rfl, _, rfl, _, _, rfl, rfl, _, _, rfl, _, S, _, rfl, g1.fh, g1.nf, g1.st, rfl, by omega, by omega, fun H2 c grH2 stH2 c0 c1 => ?_⟩
  have g2 := g1.trans (⟨grH2, stH2, g1.nf⟩ : Gs S F0 _ F0 H2)
  have hL2 : H2 L = some (.lst []) := grH2.kp _ _ upd_same LS
  refine ⟨c, rfl, by omega, by omega, ?_⟩
  refine for_range (lo := 0) (n := c.toNat) (fun i σ H' => ∃ (F' : Hp) (acc : List V) (rs : List Row) (x : Option V), σ = [some (.ref S), some (.ref m), some (.ref mi), some (.int ((ix : Int) - 1)), some (.int k0), some (.ref L), x] ∧ Gs S F0 H F' H' ∧ F' L = none ∧ H' L = some (.lst acc) ∧ Das K F' acc (rs.map Row.d) ∧ rs.length ≤ 2 * i ∧ ∀ x ∈ rs, x.Ok E0 ix)
    ⟨F0, [], [], none, rfl, g2, g0.fh.free hL, hL2, .nil, Nat.zero_le _, fun _ h => nomatch h⟩ ?_ ?_
  · rintro i σ H' hi ⟨F', acc, rs, x, rfl, g, nL, hL', da, rl, ro⟩
    refine ⟨fun σ' H' => ∃ (F' : Hp) (acc : List V) (rs : List Row) (x : Option V), σ' = [some (.ref S), some (.ref m), some (.ref mi), some (.int ((ix : Int) - 1)), some (.int k0), some (.ref L), x] ∧ Gs S F0 H F' H' ∧ F' L = none ∧ H' L = some (.lst acc) ∧ Das K F' acc (rs.map Row.d) ∧ rs.length ≤ 2 * i + 1 ∧ ∀ x ∈ rs, x.Ok E0 ix, ?_, ?_⟩
    · refine ⟨_, rfl, _, _, rfl, _, S, 6, rfl, g.fh, g.nf, g.st, rfl, by decide, by decide, fun H4 j grH4 stH4 j0 j1 => ?_⟩
      have g4 := g.trans (⟨grH4, stH4, g.nf⟩ : Gs S F' H' F' H4)
      have hL4 : H4 L = some (.lst acc) := grH4.kp _ _ hL' LS
      have mF := mA.mono g.ff
      refine ⟨rfl, _, rfl, ?_⟩
      by_cases j5 : j = 5
      · refine ite_b (decide_eq_true (congrArg V.int j5)) ?_
        refine ⟨_, rfl, .inl ⟨rfl, acc, SqL.of hL4⟩, _, rfl, _, rfl, m, _, rfl, mF.ga g4.fh, _, rfl, m, _, rfl, mF.gh g4.fh, _, _, _, _, rfl, F', S, E0.all, E0.hands, rfl, g4.sub, ⟨ak, rfl, g4.fh _ _ mF.al, e0.a1, e0.sa⟩, ⟨hk, rfl, g4.fh _ _ mF.ha, e0.h1, e0.sh⟩, e0.h0, by decide, by decide, rfl, fun F5 H5 v r g5 d5 o5 => ?_⟩
        have hL5 : H5 L = some (.lst acc) := g5.gr.kp _ _ hL4 LS
        have nL5 : F5 L = none := g5.gr.non hL4 nL
        have g45 := g4.trans g5
        refine ⟨(by show 2 ≤ sizeLine; decide), fun t6 p6 => ?_⟩
        have g6 := g45.newF (o := .tup [.str "say", v]) p6
        have sf6 := Same.new (o := .tup [.str "say", v]) (g45.fh.free p6)
        have nLt : L ≠ t6 := ne_of_none hL5 p6
        have hL6 := upd_at (u := .tup [.str "say", v]) hL5 nLt
        have nL6 : upd F5 t6 (.tup [.str "say", v]) L = none := by rw [upd_ne nLt]; exact nL5
        refine ⟨L, acc, _, rfl, rfl, hL6, ?_, ?_⟩
        · have := da.lenM
          rw [sizeLine_eq]
          omega
        refine ⟨_, acc ++ [.ref t6], rs ++ [.say r], _, rfl, g6.set nL6 hL6 hL LS, nL6, upd_same, ?_, ?_, fun y hy => ?_⟩
        · rw [List.map_append]
          exact ((da.mono g5.ff).mono sf6).app (.cons (.tup (SqT.of upd_same) (.cons (.str _) (.cons (d5.mono sf6) .nil))) .nil)
        · rw [List.length_append]
          show rs.length + 1 ≤ _
          omega
        · rcases List.mem_append.mp hy with z | z
          · exact ro y z
          · rw [List.mem_singleton.mp z]
            cases ix with
            | zero => omega
            | succ ix => exact o5
      · exact ite_nb (decide_eq_false (fun z => j5 (V.int.inj z))) ⟨F', acc, rs, _, rfl, g4, nL, hL4, da, by omega, ro⟩
    rintro σ' H4 ⟨F4, acc4, rs4, x4, rfl, g4, nL4, hL4, da4, rl4, ro4⟩
    have mF := mA.mono g4.ff
    refine ⟨_, rfl, .inl ⟨rfl, acc4, SqL.of hL4⟩, _, rfl, _, rfl, _, rfl, _, rfl, _, _, _, _, rfl, F4, S, E0, m, lk, hk, ak, mi, ix, rfl, g4.sub, mF, i1, i2, rfl, fun F5 H5 v r g5 d5 m5 o5 => ?_⟩
    have hL5 : H5 L = some (.lst acc4) := g5.gr.kp _ _ hL4 LS
    have nL5 : F5 L = none := g5.gr.non hL4 nL4
    refine ⟨L, acc4, _, rfl, rfl, hL5, ?_, ?_⟩
    · have := da4.lenM
      rw [sizeLine_eq]
      omega
    refine ⟨F5, acc4 ++ [v], rs4 ++ [r], _, rfl, (g4.trans g5).set nL5 hL5 hL LS, nL5, upd_same, ?_, ?_, fun y hy => ?_⟩
    · rw [List.map_append]
      exact (da4.mono g5.ff).app (.cons d5 .nil)
    · rw [List.length_append]
      show rs4.length + 1 ≤ _
      omega
    · rcases List.mem_append.mp hy with z | z
      · exact ro4 y z
      · rw [List.mem_singleton.mp z]
        exact o5
  · rintro σ H' ⟨F', acc, rs, x, rfl, g, nL, hL', da, rl, ro⟩
    refine ⟨_, rfl, q _ _ _ rs (g.frz nL hL' hL LS) (.lst upd_same (da.mono (Same.new nL))) (by omega) ro⟩
theorem rounds_g {n : Nat} (F : FunAt K mg "_law_rounds" s_l_rounds) (G : Glb K mg) (c_law_rows : Cal P w K mg base "_law_rows" (3 * n + 8) ["_law_state_here", "_law_made", "_law_mine", "_law_deep", "_law_many"] (spRowsG K n)) :
    Cal P w K mg base "_law_rounds" (3 * n + 9) ["_law_state_here", "_law_made", "_law_mine", "_law_times", "_law_deep"] (spRoundsG K n) := by
  refine F.cal sc_l_rounds Sp5.len (fun _ _ _ _ _ _ us hl => match us, hl with | [_, _, _, _, _], _ => rfl) fun f cdv A outer s H vs Q E hr h => ?_
  have nd := sc_l_rounds.nd
  have hu := hu_of hr
  have m_int := G.int
  refine ⟨_, (pss_one (ps_ret (pe_tup (pa_cons pe_str (pa_cons (pv 3) (pa_cons (pe_cal c_law_rows hr rfl (pa_cons (pv 0) (pa_cons (pv 1) (pa_cons (pv 2) (pa_cons (pe_op op_mul (pv 4) (pe_callTy call_int1 (by rfl) m_int (by decide +kernel) (pa_cons (pe_cmpR op_gt (pv 3) pe_int (nomark _)) pa_nil))) (pa_cons pe_int pa_nil)))))) pa_nil)))))), ?_⟩
  obtain ⟨st, made, mine, times, deep, rfl, F0, S, E0, m, lk, hk, ak, mi, ix, t, rfl, g0, mA, i1, i2, rfl, rfl, t0, t3, q⟩ := h
  obtain ⟨jx, hj⟩ : ∃ jx : Nat, jx = if 0 < t then ix else 1 := ⟨_, rfl⟩
  have hj1 : 1 ≤ jx ∧ jx ≤ ix := by
    rw [hj]
    by_cases c : 0 < t
    · rw [if_pos c]; exact ⟨i1, Nat.le_refl _⟩
    · rw [if_neg c]; exact ⟨Nat.le_refl _, i1⟩
  have ev : V.int (((ix : Int) - 1) * (if decide (0 < t) = true then 1 else 0)) = V.int ((jx : Int) - 1) := by
    rw [hj]
    by_cases c : 0 < t
    · rw [if_pos c, if_pos (decide_eq_true c), Int.mul_one]
    · rw [if_neg c, if_neg (fun z => c (of_decide_eq_true z)), Int.mul_zero]
      rfl
  refine ⟨_, rfl, _, rfl, _, rfl, _, rfl, _, rfl, _, rfl, _, _, rfl, rfl, .inr ⟨_, rfl, _, _, rfl, rfl, .inr ⟨?_, ?_⟩, _, _, _, _, _, rfl, F0, S, E0, m, lk, hk, ak, mi, jx, 2, rfl, g0, mA, hj1.1, by omega, ev, rfl, by decide, fun F2 H2 v rs g2 d2 l2 o2 => ?_⟩⟩
  · by_cases c : decide (0 < t) = true
    · rw [if_pos c]; decide
    · rw [if_neg c]; decide
  · by_cases c : decide (0 < t) = true
    · rw [if_pos c]; decide
    · rw [if_neg c]; decide
  refine ⟨(by show 3 ≤ sizeLine; decide), fun t6 p6 => q _ _ _ (.rounds t rs) (g2.newF p6) ?_ rfl ⟨t0, t3, l2, fun x hx => (o2 x hx).le hj1.2⟩⟩
  obtain ⟨b, vs, rfl, hb, hv⟩ := d2.lst_inv
  have sf := Same.new (o := .tup [.str "rounds", .int t, .ref b]) (g2.fh.free p6)
  refine .tup (SqT.of upd_same) (.cons (.str _) (.cons (.int _) (.cons ?_ .nil)))
  rw [Row.ds_eq]
  exact d2.mono sf
theorem stm_g {n : Nat} (F : FunAt K mg "_law_statement" s_l_statement) (G : Glb K mg) (c_law_take : Cal P w K mg base "_law_take" 1 ["_law_state_here", "_law_many"] (spTake K)) (c_law_remark : Cal P w K mg base "_law_remark" 6 ["_law_state_here", "_law_names", "_law_hands", "_law_deep"] (spRem K 2))
    (c_law_plain : Cal P w K mg base "_law_plain" 7 ["_law_state_here", "_law_made", "_law_mine"] (spPlainG K)) (c_law_rows : Cal P w K mg base "_law_rows" (3 * n + 8) ["_law_state_here", "_law_made", "_law_mine", "_law_deep", "_law_many"] (spRowsG K n))
    (c_law_rounds : Cal P w K mg base "_law_rounds" (3 * n + 9) ["_law_state_here", "_law_made", "_law_mine", "_law_times", "_law_deep"] (spRoundsG K n)) : Cal P w K mg base "_law_statement" (3 * n + 10) ["_law_state_here", "_law_made", "_law_mine", "_law_deep"] (spStmG K (n + 1)) := by
  refine F.cal sc_l_statement Sp4.len (fun _ _ _ _ _ _ us hl => match us, hl with | [_, _, _, _], _ => rfl) fun f cdv A outer s H vs Q E hr h => ?_
  have nd := sc_l_statement.nd
  have hu := hu_of hr
  have m_range := G.range
  have m_tuple := G.tuple
  refine ⟨_, (pss_cons (ps_set (i := 4) nd rfl (Or.inl rfl) (pe_cal c_law_take hr rfl (pa_cons (pv 0) (pa_cons pe_int pa_nil))))
    (Evl.pss_cut (ps_if (PW.pt (pw_or (pt_cmpR op_eq (pv 3) pe_int (nomark _)) (pw_or1 (pt_cmpR op_lt (pv 4) pe_int (nomark _))))) (pss_one (ps_ret (pe_cal c_law_plain hr rfl (pa_cons (pv 0) (pa_cons (pv 1) (pa_cons (pv 2) pa_nil)))))) pss_nil)
    (Evl.pss_cut (ps_if (PW.pt (pw_or (pt_cmpR op_eq (pv 4) pe_int (nomark _)) (pw_or1 (pt_cmpR op_eq (pv 4) pe_int (nomark _))))) (pss_cons (ps_set (i := 5) nd rfl (Or.inl rfl) (pe_cal c_law_remark hr rfl (pa_cons (pv 0) (pa_cons (pv 2) (pa_cons (pe_dget hu (pv 1) pe_str (fun _ _ => rfl)) (pa_cons pe_int pa_nil))))))
      (pss_cons (ps_set (i := 6) nd rfl (Or.inl rfl) (pe_cal c_law_rows hr rfl (pa_cons (pv 0) (pa_cons (pv 1) (pa_cons (pv 2) (pa_cons (pe_op op_sub (pv 3) pe_int) (pa_cons pe_int pa_nil)))))))
      (pss_one (ps_ret (pe_tup (pa_cons pe_str (pa_cons (pv 5) (pa_cons (pv 6) (pa_cons (pe_cal c_law_rows hr rfl (pa_cons (pv 0) (pa_cons (pv 1) (pa_cons (pv 2) (pa_cons (pe_op op_sub (pv 3) pe_int) (pa_cons pe_int pa_nil)))))) pa_nil))))))))) pss_nil)
    (pss_cons (ps_if (pt_cmpR op_eq (pv 4) pe_int (nomark _)) (pss_cons (ps_set (i := 5) nd rfl (Or.inl rfl) (pe_cal c_law_remark hr rfl (pa_cons (pv 0) (pa_cons (pv 2) (pa_cons (pe_dget hu (pv 1) pe_str (fun _ _ => rfl)) (pa_cons pe_int pa_nil))))))
      (pss_one (ps_ret (pe_tup (pa_cons pe_str (pa_cons (pv 5) (pa_cons (pe_cal c_law_rows hr rfl (pa_cons (pv 0) (pa_cons (pv 1) (pa_cons (pv 2) (pa_cons (pe_op op_sub (pv 3) pe_int) (pa_cons pe_int pa_nil)))))) pa_nil))))))) pss_nil)
    (pss_cons (ps_if (pt_cmpR op_eq (pv 4) pe_int (nomark _)) (pss_one (ps_ret (pe_cal c_law_rounds hr rfl (pa_cons (pv 0) (pa_cons (pv 1) (pa_cons (pv 2) (pa_cons (pe_cal c_law_take hr rfl (pa_cons (pv 0) (pa_cons pe_int pa_nil))) (pa_cons (pe_op op_sub (pv 3) pe_int) pa_nil)))))))) pss_nil)
    (Evl.pss_cut (ps_set (i := 7) nd rfl (Or.inl rfl) (pe_ix ix_list (pe_lst (pa_cons pe_int (pa_cons pe_int (pa_cons pe_int (pa_cons pe_int pa_nil))))) (pe_cal c_law_take hr rfl (pa_cons (pv 0) (pa_cons pe_int pa_nil))) (fun _ _ => rfl)))
    (pss_one (ps_ret (pe_tup (pa_cons pe_str (pa_cons (pe_callTy call_tuple_of (by rfl) m_tuple (by decide +kernel) (pa_cons (pe_lc (own := [("_law_k", 8)]) (g := (gName 8)) (tt := tYes) rfl nd (pi_range1 rfl m_range (pa_cons (pv 7) pa_nil)) (blkOk_by (own := [("_law_k", 8)]) (N := N_l_statement) (sc := defScope s_l_statement) (by decide +kernel)) (fun _ _ _ _ _ => (pg_name (i := 8) nd rfl (Or.inl rfl))) (fun _ _ _ _ _ => pts_nil) (fun _ _ _ _ _ => (pe_cal c_law_rows hr rfl (pa_cons (pv 0) (pa_cons (pv 1) (pa_cons (pv 2) (pa_cons (pe_op op_sub (pv 3) pe_int) (pa_cons pe_int pa_nil)))))))) pa_nil)) pa_nil))))))))))), ?_⟩
  obtain ⟨st, made, mine, deep, rfl, F0, S, E0, m, lk, hk, ak, mi, ix, rfl, g0, mA, i1, i2, rfl, q⟩ := h
  obtain rfl := mA.e1
  obtain rfl := mA.e2
  have e0 := mA.en
  have hm6 := e0.m1
  refine ⟨_, rfl, _, _, rfl, _, S, 8, rfl, g0.fh, g0.nf, g0.st, rfl, by decide, by decide, fun H1 k grH1 stH1 k0 k1 => ?_⟩
  have g1 : Gs S F0 H F0 H1 := ⟨grH1, stH1, g0.nf⟩
  refine ⟨fun σ' H' => σ' = [some (.ref S), some (.ref m), some (.ref mi), some (.int ((ix : Int) - 1)), some (.int k), none, none, none, none] ∧ H' = H1 ∧ 2 ≤ ix, ?_, ?_⟩
  · have pl : spPlainG K [.ref S, .ref m, .ref mi] H1 Q E := ⟨_, _, _, rfl, F0, S, E0, m, lk, hk, ak, mi, rfl, g1.sub, mA, fun F2 H2 v r g2 d2 p2 o2 => q _ _ _ r (g1.trans g2) d2 (by cases r <;> first | rfl | cases p2) (plain_up p2 o2 i1)⟩
    refine ⟨_, rfl, rfl, _, rfl, ?_⟩
    by_cases d0 : ix = 1
    · refine ite_b (decide_eq_true (congrArg V.int (by omega))) ?_
      exact ⟨_, rfl, _, rfl, _, rfl, pl⟩
    refine ite_nb (decide_eq_false (fun z => d0 (by have := V.int.inj z; omega))) ?_
    refine ⟨_, rfl, _, _, rfl, rfl, _, rfl, ?_⟩
    by_cases k3 : k < 3
    · refine ite_b (decide_eq_true k3) ?_
      exact ⟨_, rfl, _, rfl, _, rfl, pl⟩
    exact ite_nb (decide_eq_false k3) ⟨rfl, rfl, by omega⟩
  rintro σ' H' ⟨rfl, e', ix2⟩
  have e' := e'.symm
  subst e'
  obtain ⟨iy, rfl⟩ : ∃ iy, ix = iy + 1 := ⟨ix - 1, by omega⟩
  have hy1 : 1 ≤ iy := by omega
  have hy2 : iy ≤ n := by omega
  have hyd : V.int (((iy + 1 : Nat) : Int) - 1 - 1) = V.int ((iy : Int) - 1) := congrArg V.int (by omega)
  have inm : ∀ {r : Rk}, r.Ok E0.mine E0.hands 2 → r.Ok (E0.mine ++ E0.locks) E0.hands 2 := fun h => Rk.Ok.mono (fun x hx => List.mem_append_left _ hx) 2 _ h
  -- if
  refine ⟨fun σ' H' => σ' = [some (.ref S), some (.ref m), some (.ref mi), some (.int (((iy + 1 : Nat) : Int) - 1)), some (.int k), none, none, none, none] ∧ H' = H1, ?_, ?_⟩
  · have go : ∀ (σ0 : List (Option V)), True := fun _ => trivial
    refine ⟨_, rfl, rfl, _, rfl, ?_⟩
    by_cases k3 : k = 3
    · refine ite_b (decide_eq_true (congrArg V.int k3)) ?_
      refine ⟨_, rfl, _, rfl, _, rfl, m, _, rfl, mA.gh g1.fh, _, _, _, _, rfl, F0, S, E0.mine, E0.hands, rfl, g1.sub, ⟨mi, rfl, g1.fh _ _ mA.mi_, by omega, e0.sm⟩, ⟨hk, rfl, g1.fh _ _ mA.ha, e0.h1, e0.sh⟩, e0.h0, by decide, by decide, rfl, fun F2 H2 v r gH2 dH2 oH2 => ?_⟩
      have g2 := g1.trans gH2
      refine ⟨_, rfl, _, rfl, _, rfl, _, rfl, _, _, rfl, rfl, _, _, _, _, _, rfl, _, S, E0, m, lk, hk, ak, mi, iy, 2, rfl, g2.sub, (mA.mono g2.ff), hy1, hy2, hyd, rfl, by decide, fun F3 H3 va a gH3 dH3 lH3 oH3 => ?_⟩
      have g3 := g2.trans gH3
      refine ⟨_, rfl, _, rfl, _, rfl, _, rfl, _, rfl, _, rfl, _, _, rfl, rfl, _, _, _, _, _, rfl, _, S, E0, m, lk, hk, ak, mi, iy, 2, rfl, g3.sub, (mA.mono g3.ff), hy1, hy2, hyd, rfl, by decide, fun F4 H4 vb b gH4 dH4 lH4 oH4 => ?_⟩
      have g4 := g3.trans gH4
      refine ⟨(by show 4 ≤ sizeLine; decide), fun t p => ?_⟩
      have sf := Same.new (o := .tup [.str "if", v, va, vb]) (g4.fh.free p)
      refine q _ _ _ (.iff r a b) (g4.newF p) ?_ rfl ⟨inm oH2, lH3, oH3, lH4, oH4⟩
      refine .tup (SqT.of upd_same) (.cons (.str _) (.cons (((dH2.mono gH3.ff).mono gH4.ff).mono sf) (.cons ?_ (.cons ?_ .nil))))
      · rw [Row.ds_eq]
        exact (dH3.mono gH4.ff).mono sf
      · rw [Row.ds_eq]
        exact dH4.mono sf
    refine ite_nb (decide_eq_false (fun z => k3 (V.int.inj z))) ?_
    refine ⟨_, rfl, rfl, _, rfl, ?_⟩
    by_cases k7 : k = 7
    · refine ite_b (decide_eq_true (congrArg V.int k7)) ?_
      refine ⟨_, rfl, _, rfl, _, rfl, m, _, rfl, mA.gh g1.fh, _, _, _, _, rfl, F0, S, E0.mine, E0.hands, rfl, g1.sub, ⟨mi, rfl, g1.fh _ _ mA.mi_, by omega, e0.sm⟩, ⟨hk, rfl, g1.fh _ _ mA.ha, e0.h1, e0.sh⟩, e0.h0, by decide, by decide, rfl, fun F2 H2 v r gH2 dH2 oH2 => ?_⟩
      have g2 := g1.trans gH2
      refine ⟨_, rfl, _, rfl, _, rfl, _, rfl, _, _, rfl, rfl, _, _, _, _, _, rfl, _, S, E0, m, lk, hk, ak, mi, iy, 2, rfl, g2.sub, (mA.mono g2.ff), hy1, hy2, hyd, rfl, by decide, fun F3 H3 va a gH3 dH3 lH3 oH3 => ?_⟩
      have g3 := g2.trans gH3
      refine ⟨_, rfl, _, rfl, _, rfl, _, rfl, _, rfl, _, rfl, _, _, rfl, rfl, _, _, _, _, _, rfl, _, S, E0, m, lk, hk, ak, mi, iy, 2, rfl, g3.sub, (mA.mono g3.ff), hy1, hy2, hyd, rfl, by decide, fun F4 H4 vb b gH4 dH4 lH4 oH4 => ?_⟩
      have g4 := g3.trans gH4
      refine ⟨(by show 4 ≤ sizeLine; decide), fun t p => ?_⟩
      have sf := Same.new (o := .tup [.str "if", v, va, vb]) (g4.fh.free p)
      refine q _ _ _ (.iff r a b) (g4.newF p) ?_ rfl ⟨inm oH2, lH3, oH3, lH4, oH4⟩
      refine .tup (SqT.of upd_same) (.cons (.str _) (.cons (((dH2.mono gH3.ff).mono gH4.ff).mono sf) (.cons ?_ (.cons ?_ .nil))))
      · rw [Row.ds_eq]
        exact (dH3.mono gH4.ff).mono sf
      · rw [Row.ds_eq]
        exact dH4.mono sf
    exact ite_nb (decide_eq_false (fun z => k7 (V.int.inj z))) ⟨rfl, rfl⟩
  rintro σ' H' ⟨rfl, e'⟩
  have e' := e'.symm
  subst e'
  refine ⟨_, rfl, rfl, _, rfl, ?_⟩
  by_cases k4 : k = 4
  · refine ite_b (decide_eq_true (congrArg V.int k4)) ?_
    refine ⟨_, rfl, _, rfl, _, rfl, m, _, rfl, mA.gh g1.fh, _, _, _, _, rfl, F0, S, E0.mine, E0.hands, rfl, g1.sub, ⟨mi, rfl, g1.fh _ _ mA.mi_, by omega, e0.sm⟩, ⟨hk, rfl, g1.fh _ _ mA.ha, e0.h1, e0.sh⟩, e0.h0, by decide, by decide, rfl, fun F2 H2 v r gH2 dH2 oH2 => ?_⟩
    have g2 := g1.trans gH2
    refine ⟨_, rfl, _, rfl, _, rfl, _, rfl, _, rfl, _, _, rfl, rfl, _, _, _, _, _, rfl, _, S, E0, m, lk, hk, ak, mi, iy, 2, rfl, g2.sub, (mA.mono g2.ff), hy1, hy2, hyd, rfl, by decide, fun F3 H3 va a gH3 dH3 lH3 oH3 => ?_⟩
    have g3 := g2.trans gH3
    refine ⟨(by show 3 ≤ sizeLine; decide), fun t p => ?_⟩
    have sf := Same.new (o := .tup [.str "while", v, va]) (g3.fh.free p)
    refine q _ _ _ (.whl r a) (g3.newF p) ?_ rfl ⟨inm oH2, lH3, oH3⟩
    refine .tup (SqT.of upd_same) (.cons (.str _) (.cons ((dH2.mono gH3.ff).mono sf) (.cons ?_ .nil)))
    rw [Row.ds_eq]
    exact dH3.mono sf
  refine ite_nb (decide_eq_false (fun z => k4 (V.int.inj z))) ?_
  refine ⟨_, rfl, rfl, _, rfl, ?_⟩
  by_cases k5 : k = 5
  · refine ite_b (decide_eq_true (congrArg V.int k5)) ?_
    refine ⟨_, rfl, _, rfl, _, rfl, _, rfl, _, _, rfl, _, S, 4, rfl, g1.fh, g1.nf, g1.st, rfl, by decide, by decide, fun H2 t grH2 stH2 t0 t1 => ?_⟩
    have g2 := g1.trans (⟨grH2, stH2, g1.nf⟩ : Gs S F0 H1 F0 H2)
    refine ⟨_, rfl, _, _, rfl, rfl, _, _, _, _, _, rfl, F0, S, E0, m, lk, hk, ak, mi, iy, t, rfl, g2.sub, mA, hy1, hy2, hyd, rfl, t0, by omega, fun F3 H3 v r g3 d3 m3 o3 => q _ _ _ r (g2.trans g3) d3 m3 o3⟩
  refine ite_nb (decide_eq_false (fun z => k5 (V.int.inj z))) ?_
  refine ⟨fun σ' H' => ∃ c : Nat, σ' = [some (.ref S), some (.ref m), some (.ref mi), some (.int (((iy + 1 : Nat) : Int) - 1)), some (.int k), none, none, some (.int c), none] ∧ Gs S F0 H F0 H' ∧ 2 ≤ c ∧ c ≤ 5, ?_, ?_⟩
  · refine ⟨(by show 4 ≤ sizeLine; decide), fun l hl => ?_⟩
    have g2 := g1.new (o := .lst [.int 2, .int 2, .int 3, .int 5]) hl
    refine ⟨_, rfl, _, _, rfl, _, S, 4, rfl, g2.fh, g2.nf, g2.st, rfl, by decide, by decide, fun H3 j grH3 stH3 j0 j1 => ?_⟩
    have g3 := g2.trans (⟨grH3, stH3, g2.nf⟩ : Gs S F0 _ F0 H3)
    have l3 : H3 l = some (.lst [.int 2, .int 2, .int 3, .int 5]) := grH3.kp _ _ upd_same (stt_ne g1.st hl)
    have hj : j = 0 ∨ j = 1 ∨ j = 2 ∨ j = 3 := by omega
    rcases hj with rfl | rfl | rfl | rfl
    · exact ⟨l, _, 0, .int 2, rfl, rfl, SqL.of l3, rfl, 2, rfl, g3, by decide, by decide⟩
    · exact ⟨l, _, 1, .int 2, rfl, rfl, SqL.of l3, rfl, 2, rfl, g3, by decide, by decide⟩
    · exact ⟨l, _, 2, .int 3, rfl, rfl, SqL.of l3, rfl, 3, rfl, g3, by decide, by decide⟩
    · exact ⟨l, _, 3, .int 5, rfl, rfl, SqL.of l3, rfl, 5, rfl, g3, by decide, by decide⟩
  rintro σ' H2 ⟨c, rfl, g2, c2, c5⟩
  refine ⟨_, rfl, (c : Int), rfl, by omega, by omega, fun D hD => ?_⟩
  have hDH : H D = none := g2.gr.th _ hD
  refine lc_range (lo := 0) (n := c) (fun i H' => ∃ (F' : Hp) (acc : List V) (ws : List (List Row)), Gs S F0 H F' H' ∧ F' D = none ∧ H' D = some (.lst acc) ∧ Das K F' acc (ws.map rd) ∧ ws.length = i ∧ ∀ a ∈ ws, a.length ≤ 4 ∧ ∀ x ∈ a, x.Ok E0 iy) ⟨F0, [], [], g2.new hD, g2.fh.free hD, upd_same, .nil, rfl, fun _ h => nomatch h⟩ ?_ ?_
  · rintro i H4 hi ⟨F', acc, ws, g, nD, hD', da, wl, wo⟩
    refine ⟨rfl, _, rfl, _, rfl, _, rfl, _, rfl, _, _, rfl, rfl, _, _, _, _, _, rfl, _, S, E0, m, lk, hk, ak, mi, iy, 2, rfl, g.sub, (mA.mono g.ff), hy1, hy2, hyd, rfl, by decide, fun F5 H5 va a gH5 dH5 lH5 oH5 => ?_⟩
    have hD5 := gH5.gr.kp _ _ hD' (stt_ne g2.st hD)
    have nD5 := gH5.gr.non hD' nD
    refine ⟨acc, hD5, ?_, F5, acc ++ [va], ws ++ [a], (g.trans gH5).set nD5 hD5 hDH (stt_ne g2.st hD), nD5, upd_same, ?_, ?_, fun y hy => ?_⟩
    · have := da.lenM
      rw [sizeLine_eq]
      omega
    · rw [List.map_append]
      exact (da.mono gH5.ff).app (.cons dH5 .nil)
    · rw [List.length_append, wl]
      rfl
    · rcases List.mem_append.mp hy with z | z
      · exact wo y z
      · rw [List.mem_singleton.mp z]
        exact ⟨lH5, oH5⟩
  · rintro H4 ⟨F', acc, ws, g, nD, hD', da, wl, wo⟩
    refine ⟨D, acc, rfl, .inl ⟨SqL.of hD', fun t1 p1 => ⟨(by show 2 ≤ sizeLine; decide), fun t2 p2 => ?_⟩⟩⟩
    have g5 := g.newF (o := .tup acc) p1
    have sf5 := Same.new (o := .tup acc) (g.fh.free p1)
    have g6 := g5.newF (o := .tup [.str "either", .ref t1]) p2
    have sf6 := Same.new (o := .tup [.str "either", .ref t1]) (g5.fh.free p2)
    refine q _ _ _ (.either ws) g6 ?_ rfl ⟨by omega, by omega, wo⟩
    refine .tup (SqT.of upd_same) (.cons (.str _) (.cons (.tup (SqT.of (sf6 _ _ upd_same)) ?_) .nil))
    rw [Row.dss_eq]
    exact (da.mono sf5).mono sf6
theorem ok_gen (Fr : FunAt K mg "_law_rows" s_l_rows) (Fs : FunAt K mg "_law_statement" s_l_statement) (Fo : FunAt K mg "_law_rounds" s_l_rounds) (G : Glb K mg) (c_law_take : Cal P w K mg base "_law_take" 1 ["_law_state_here", "_law_many"] (spTake K)) (c_law_remark : Cal P w K mg base "_law_remark" 6 ["_law_state_here", "_law_names", "_law_hands", "_law_deep"] (spRem K 2))
    (c_law_plain : Cal P w K mg base "_law_plain" 7 ["_law_state_here", "_law_made", "_law_mine"] (spPlainG K)) :
    ∀ n, Cal P w K mg base "_law_statement" (3 * n + 7) ["_law_state_here", "_law_made", "_law_mine", "_law_deep"] (spStmG K n) ∧ Cal P w K mg base "_law_rows" (3 * n + 8) ["_law_state_here", "_law_made", "_law_mine", "_law_deep", "_law_many"] (spRowsG K n)
  | 0 => by
    have a : Cal P w K mg base "_law_statement" (3 * 0 + 7) ["_law_state_here", "_law_made", "_law_mine", "_law_deep"] (spStmG K 0) := Fs.none (fun _ _ _ _ _ _ us hl => match us, hl with | [_, _, _, _], _ => rfl) fun vs H Q E ⟨_, _, _, _, _, _, _, _, _, _, _, _, _, _, _, _, z1, z2, _⟩ => by omega
    exact ⟨a, rows_g (n := 0) Fr G c_law_take c_law_remark a⟩
  | n + 1 => by
    obtain ⟨a0, b0⟩ := ok_gen Fr Fs Fo G c_law_take c_law_remark c_law_plain n
    have a := stm_g Fs G c_law_take c_law_remark c_law_plain b0 (rounds_g Fo G b0)
    exact ⟨a, rows_g (n := n + 1) Fr G c_law_take c_law_remark a⟩
end
end Ca
namespace Ca
open PySem L2
def nmTab : Nat → List Str
  | 1 => ["b", "ab", "abc", "abcd", "a", "ba", "aab", "b1", "bab", "ab1"]
  | 2 => ["order", "andes", "note", "iff", "atlas", "setup", "waiter", "handy", "boxes", "ends"]
  | _ => ["or1", "and2", "not3", "box4", "at5", "end6", "own7", "set8", "iff9", "says"]
def nmA : List Nat := ("bcdfghjkmn" : Str).cps.toList
def nmB : List Nat := ("qx7" : Str).cps.toList
/-- size, place, the filler's number -/
def nmGen (sz pl x : Nat) : List Str := nmA.map fun c => ((Txt.mul "q" (pl : Int)) ++ (⟨#[c]⟩ : Str)) ++ Txt.mul (⟨#[nmB.getD x 0]⟩ : Str) ((sz : Int) - 1 - (pl : Int))
/-- the ten names of a head -/
def nmL10 (h : Int) : List Str :=
  let c := ((h.fdiv 147).fmod 4).toNat
  if c = 1 ∨ c = 2 ∨ c = 3 then nmTab c else
    let sz := (2 + h.fmod 7).toNat
    nmGen sz (((h.fdiv 7).fmod ((sz : Int) - 1)).toNat) (((h.fdiv 49).fmod 3).toNat)
def goodNm (l : List Str) : Bool := decide (l.length = 10) && decide ((l ++ [("lk1" : Str), ("lk2" : Str)]).Nodup) && l.all (fun x => PyData.strOk x)
theorem tab_good : (goodNm (nmTab 1) && goodNm (nmTab 2) && goodNm (nmTab 3)) = true := by decide +kernel
theorem gen_good : ((List.range 9).all fun sz => (List.range 7).all fun pl => (List.range 3).all fun x => !decide (pl + 2 ≤ sz) || goodNm (nmGen sz pl x)) = true := by decide +kernel
end Ca
namespace Ca
open PySem L2
abbrev s_l_name : Stmt := top 51
abbrev N_l_name : List Str := ["_law_head", "_law_k", "_law_size", "_law_place"]
theorem sc_l_name : FnScope N_l_name ["_law_head", "_law_k"] (defScope s_l_name) := ⟨rfl, rfl, rfl, by decide +kernel, rfl, by decide +kernel, by decide +kernel⟩
-- cells: []  slots: 0=_law_head 1=_law_k 2=_law_size 3=_law_place
abbrev s_l_box : Stmt := top 62
abbrev N_l_box : List Str := ["_law_state_here", "_law_name_here", "_law_most", "_law_low", "_law_high"]
theorem sc_l_box : FnScope N_l_box ["_law_state_here", "_law_name_here", "_law_most"] (defScope s_l_box) := ⟨rfl, rfl, rfl, by decide +kernel, rfl, by decide +kernel, by decide +kernel⟩
-- cells: []  slots: 0=_law_state_here 1=_law_name_here 2=_law_most 3=_law_low 4=_law_high
theorem nm_good (h : Int) : goodNm (nmL10 h) = true := by
  obtain ⟨c, hc⟩ : ∃ c, c = ((h.fdiv 147).fmod 4).toNat := ⟨_, rfl⟩
  have tg := tab_good
  simp only [Bool.and_eq_true] at tg
  unfold nmL10
  simp only [← hc]
  by_cases h1 : c = 1 ∨ c = 2 ∨ c = 3
  · rw [if_pos h1]
    rcases h1 with e | e | e
    · rw [e]; exact tg.1.1
    · rw [e]; exact tg.1.2
    · rw [e]; exact tg.2
  · rw [if_neg h1]
    have a1 := Int.fmod_nonneg_of_pos h (by decide : (0 : Int) < 7)
    have a2 := Int.fmod_lt_of_pos h (by decide : (0 : Int) < 7)
    obtain ⟨sz, hsz⟩ : ∃ sz : Nat, sz = (2 + h.fmod 7).toNat := ⟨_, rfl⟩
    have s1 : 2 ≤ sz ∧ sz < 9 := by omega
    rw [← hsz]
    have hp : (0 : Int) < (sz : Int) - 1 := by omega
    have b1 := Int.fmod_nonneg_of_pos (h.fdiv 7) hp
    have b2 := Int.fmod_lt_of_pos (h.fdiv 7) hp
    have c1 := Int.fmod_nonneg_of_pos (h.fdiv 49) (by decide : (0 : Int) < 3)
    have c2 := Int.fmod_lt_of_pos (h.fdiv 49) (by decide : (0 : Int) < 3)
    have g := gen_good
    rw [List.all_eq_true] at g
    have g1 := g sz (List.mem_range.mpr s1.2)
    rw [List.all_eq_true] at g1
    have g2 := g1 (((h.fdiv 7).fmod ((sz : Int) - 1)).toNat) (List.mem_range.mpr (by omega))
    rw [List.all_eq_true] at g2
    have g3 := g2 (((h.fdiv 49).fmod 3).toNat) (List.mem_range.mpr (by omega))
    have e : decide (((h.fdiv 7).fmod ((sz : Int) - 1)).toNat + 2 ≤ sz) = true := decide_eq_true (by omega)
    rw [e] at g3
    exact g3
theorem nm_len (h : Int) : (nmL10 h).length = 10 := by
  have z := nm_good h
  unfold goodNm at z
  simp only [Bool.and_eq_true, decide_eq_true_eq] at z
  exact z.1.1
theorem nm_nd (h : Int) : ((nmL10 h) ++ [("lk1" : Str), ("lk2" : Str)]).Nodup := by
  have z := nm_good h
  unfold goodNm at z
  simp only [Bool.and_eq_true, decide_eq_true_eq] at z
  exact z.1.2
theorem nm_ok (h : Int) : ∀ x ∈ nmL10 h, PyData.strOk x = true := by
  have z := nm_good h
  unfold goodNm at z
  simp only [Bool.and_eq_true, decide_eq_true_eq] at z
  exact List.all_eq_true.mp z.2
def nm (h : Int) (j : Nat) : Str := (nmL10 h).getD j ""
section
variable {P : Program} {w : World} {K : PySem.W.Frag} {mg : Str → Option Value} {base : Heap}
def spName : Sp := Sp2 fun head k H Q => ∃ (h : Int) (j : Nat), head = .int h ∧ k = .int j ∧ j < 10 ∧ ∀ H', Same H H' → Q (.str (nm h j)) H'
theorem mod10 {j : Nat} (h : j < 10) : ((j : Int)).fmod 10 = (j : Int) := by
  rw [Int.fmod_eq_emod_of_nonneg _ (by decide)]
  omega
theorem mul_small {x : Str} {n : Int} (hx : x.length = 1) (h0 : 0 ≤ n) (h1 : n ≤ 8) : MulOk x n := by
  refine ⟨?_, fun n1 _ => ?_, fun n1 _ => ?_⟩
  · rw [decide_eq_false (by omega), decide_eq_false (by omega)]
    rfl
  · rw [hx]
    have hn : n = 1 ∨ n = 2 ∨ n = 3 ∨ n = 4 ∨ n = 5 ∨ n = 6 ∨ n = 7 ∨ n = 8 := by omega
    rcases hn with rfl | rfl | rfl | rfl | rfl | rfl | rfl | rfl <;> decide
  · rw [hx]
    have hn : n = 1 ∨ n = 2 ∨ n = 3 ∨ n = 4 ∨ n = 5 ∨ n = 6 ∨ n = 7 ∨ n = 8 := by omega
    rcases hn with rfl | rfl | rfl | rfl | rfl | rfl | rfl | rfl <;> decide
theorem ok_name (F : FunAt K mg "_law_name" s_l_name) (G : Glb K mg) : Cal P w K mg base "_law_name" 1 ["_law_head", "_law_k"] spName := by
  refine F.cal sc_l_name Sp2.len (fun _ _ _ _ _ _ us hl => match us, hl with | [_, _], _ => rfl) fun f cdv A outer s H vs Q E hr h => ?_
  have nd := sc_l_name.nd
  have hu := hu_of hr
  refine ⟨_, (pss_cons (ps_if (pt_cmpR op_eq (pe_op op_modN (pe_op op_fdivN (pv 0) pe_int) pe_int) pe_int (nomark _)) (pss_one (ps_ret (pe_ix ix_list (pe_lst (pa_cons pe_str (pa_cons pe_str (pa_cons pe_str (pa_cons pe_str (pa_cons pe_str (pa_cons pe_str (pa_cons pe_str (pa_cons pe_str (pa_cons pe_str (pa_cons pe_str pa_nil))))))))))) (pe_op op_modN (pv 1) pe_int) (fun _ _ => rfl)))) pss_nil)
    (pss_cons (ps_if (pt_cmpR op_eq (pe_op op_modN (pe_op op_fdivN (pv 0) pe_int) pe_int) pe_int (nomark _)) (pss_one (ps_ret (pe_ix ix_list (pe_lst (pa_cons pe_str (pa_cons pe_str (pa_cons pe_str (pa_cons pe_str (pa_cons pe_str (pa_cons pe_str (pa_cons pe_str (pa_cons pe_str (pa_cons pe_str (pa_cons pe_str pa_nil))))))))))) (pe_op op_modN (pv 1) pe_int) (fun _ _ => rfl)))) pss_nil)
    (pss_cons (ps_if (pt_cmpR op_eq (pe_op op_modN (pe_op op_fdivN (pv 0) pe_int) pe_int) pe_int (nomark _)) (pss_one (ps_ret (pe_ix ix_list (pe_lst (pa_cons pe_str (pa_cons pe_str (pa_cons pe_str (pa_cons pe_str (pa_cons pe_str (pa_cons pe_str (pa_cons pe_str (pa_cons pe_str (pa_cons pe_str (pa_cons pe_str pa_nil))))))))))) (pe_op op_modN (pv 1) pe_int) (fun _ _ => rfl)))) pss_nil)
    (pss_cons (ps_set (i := 2) nd rfl (Or.inl rfl) (pe_op op_add pe_int (pe_op op_modN (pv 0) pe_int)))
    (pss_cons (ps_set (i := 3) nd rfl (Or.inl rfl) (pe_op op_modN (pe_op op_fdivN (pv 0) pe_int) (pe_op op_sub (pv 2) pe_int)))
    (pss_one (ps_ret (pe_op op_add_str (pe_op op_add_str (pe_op op_mul_str pe_str (pv 3)) (pe_ix ix_str pe_str (pe_op op_modN (pv 1) pe_int) (fun _ _ => rfl))) (pe_op op_mul_str (pe_ix ix_str pe_str (pe_op op_modN (pe_op op_fdivN (pv 0) pe_int) pe_int) (fun _ _ => rfl)) (pe_op op_sub (pe_op op_sub (pv 2) pe_int) (pv 3))))))))))), ?_⟩
  obtain ⟨head, kk, rfl, h, j, rfl, rfl, hj, q⟩ := h
  have c0 := Int.fmod_nonneg_of_pos (h.fdiv 147) (by decide : (0 : Int) < 4)
  have c4 := Int.fmod_lt_of_pos (h.fdiv 147) (by decide : (0 : Int) < 4)
  have dv : CDivN h 147 := ⟨by decide, by decide⟩
  have m10 : (fun (_ j : Int) => j ≠ 0) (j : Int) 10 := by show (10 : Int) ≠ 0; decide
  have tab : ∀ (c : Nat), c = 1 ∨ c = 2 ∨ c = 3 → (h.fdiv 147).fmod 4 = c → ∀ (p : Addr) (H' : Hp), Same H H' → SqL K H' p ((nmTab c).map V.str) → ∃ v, atI ((nmTab c).map V.str) ((j : Int).fmod 10) = some v ∧ Q v H' := fun c hc e p H' sm sq => by
    have e1 : nmL10 h = nmTab c := by
      unfold nmL10
      simp only [e, Int.toNat_natCast, if_pos hc]
    have e2 : (nmTab c).length = 10 := by rw [← e1]; exact nm_len h
    refine ⟨.str (nm h j), ?_, q _ sm⟩
    rw [mod10 hj]
    refine atI_nat ?_
    unfold nm
    rw [e1, List.getElem?_map, List.getD_eq_getElem?_getD, List.getElem?_eq_getElem (by omega)]
    rfl
  refine ⟨_, rfl, _, _, rfl, rfl, dv, _, _, rfl, rfl, (by show (4 : Int) ≠ 0; decide), rfl, _, rfl, ?_⟩
  by_cases e1 : (h.fdiv 147).fmod 4 = 1
  · refine ite_b (decide_eq_true (congrArg V.int e1)) ?_
    refine ⟨(by show 10 ≤ sizeLine; decide), fun l hl => ⟨_, rfl, _, _, rfl, rfl, m10, ?_⟩⟩
    obtain ⟨v, hv, hq⟩ := tab 1 (.inl rfl) e1 l _ (Same.new hl) (SqL.of upd_same)
    exact ⟨l, _, _, v, rfl, rfl, SqL.of upd_same, hv, hq⟩
  refine ite_nb (decide_eq_false (fun z => e1 (V.int.inj z))) ?_
  refine ⟨_, rfl, _, _, rfl, rfl, dv, _, _, rfl, rfl, (by show (4 : Int) ≠ 0; decide), rfl, _, rfl, ?_⟩
  by_cases e2 : (h.fdiv 147).fmod 4 = 2
  · refine ite_b (decide_eq_true (congrArg V.int e2)) ?_
    refine ⟨(by show 10 ≤ sizeLine; decide), fun l hl => ⟨_, rfl, _, _, rfl, rfl, m10, ?_⟩⟩
    obtain ⟨v, hv, hq⟩ := tab 2 (.inr (.inl rfl)) e2 l _ (Same.new hl) (SqL.of upd_same)
    exact ⟨l, _, _, v, rfl, rfl, SqL.of upd_same, hv, hq⟩
  refine ite_nb (decide_eq_false (fun z => e2 (V.int.inj z))) ?_
  refine ⟨_, rfl, _, _, rfl, rfl, dv, _, _, rfl, rfl, (by show (4 : Int) ≠ 0; decide), rfl, _, rfl, ?_⟩
  by_cases e3 : (h.fdiv 147).fmod 4 = 3
  · refine ite_b (decide_eq_true (congrArg V.int e3)) ?_
    refine ⟨(by show 10 ≤ sizeLine; decide), fun l hl => ⟨_, rfl, _, _, rfl, rfl, m10, ?_⟩⟩
    obtain ⟨v, hv, hq⟩ := tab 3 (.inr (.inr rfl)) e3 l _ (Same.new hl) (SqL.of upd_same)
    exact ⟨l, _, _, v, rfl, rfl, SqL.of upd_same, hv, hq⟩
  refine ite_nb (decide_eq_false (fun z => e3 (V.int.inj z))) ?_
  have a1 := Int.fmod_nonneg_of_pos h (by decide : (0 : Int) < 7)
  have a2 := Int.fmod_lt_of_pos h (by decide : (0 : Int) < 7)
  obtain ⟨sz, hsz⟩ : ∃ sz : Nat, 2 + h.fmod 7 = (sz : Int) := ⟨(2 + h.fmod 7).toNat, by omega⟩
  have s1 : 2 ≤ sz ∧ sz < 9 := by omega
  have hp : (0 : Int) < 2 + h.fmod 7 - 1 := by omega
  have b1 := Int.fmod_nonneg_of_pos (h.fdiv 7) hp
  have b2 := Int.fmod_lt_of_pos (h.fdiv 7) hp
  have c1 := Int.fmod_nonneg_of_pos (h.fdiv 49) (by decide : (0 : Int) < 3)
  have c2 := Int.fmod_lt_of_pos (h.fdiv 49) (by decide : (0 : Int) < 3)
  obtain ⟨pl, hpl⟩ : ∃ pl : Nat, (h.fdiv 7).fmod (2 + h.fmod 7 - 1) = (pl : Int) := ⟨((h.fdiv 7).fmod (2 + h.fmod 7 - 1)).toNat, by omega⟩
  obtain ⟨x, hx⟩ : ∃ x : Nat, (h.fdiv 49).fmod 3 = (x : Int) := ⟨((h.fdiv 49).fmod 3).toNat, by omega⟩
  have hx3 : x < 3 := by omega
  have e0 : nmL10 h = nmGen sz pl x := by
    unfold nmL10
    have hc : ¬ (((h.fdiv 147).fmod 4).toNat = 1 ∨ ((h.fdiv 147).fmod 4).toNat = 2 ∨ ((h.fdiv 147).fmod 4).toNat = 3) := by omega
    have hsz' : (2 + h.fmod 7).toNat = sz := by omega
    have hpl' : ((h.fdiv 7).fmod ((sz : Int) - 1)).toNat = pl := by
      rw [← hsz, hpl]
      rfl
    have hx' : ((h.fdiv 49).fmod 3).toNat = x := by omega
    simp only [if_neg hc, hsz', hpl', hx']
  have hA : nmA.length = 10 := by decide +kernel
  have hB : nmB.length = 3 := by decide +kernel
  obtain ⟨cA, hcA⟩ : ∃ cA, nmA[j]? = some cA := ⟨_, List.getElem?_eq_getElem (by omega)⟩
  obtain ⟨cB, hcB⟩ : ∃ cB, nmB[x]? = some cB := ⟨_, List.getElem?_eq_getElem (by omega)⟩
  have hfin : nm h j = ((Txt.mul "q" (pl : Int)) ++ (⟨#[cA]⟩ : Str)) ++ Txt.mul (⟨#[cB]⟩ : Str) ((sz : Int) - 1 - (pl : Int)) := by
    unfold nm
    rw [e0]
    unfold nmGen
    rw [List.getD_eq_getElem?_getD, List.getElem?_map, hcA, List.getD_eq_getElem?_getD, hcB]
    rfl
  rw [hfin] at q
  have lenM : ∀ (z : Str) (n : Int), z.length = 1 → 0 ≤ n → n ≤ 8 → (Txt.mul z n).length ≤ 8 := fun z n hz h0 h1 => by
    have e := PyProof.Rows.len_mul z n
    rw [if_neg (by rw [decide_eq_true_iff]; omega), hz] at e
    omega
  refine ⟨_, rfl, _, _, rfl, rfl, (by show (7 : Int) ≠ 0; decide), _, _, rfl, rfl, ?_⟩
  refine ⟨_, rfl, _, _, rfl, rfl, ⟨by decide, by decide⟩, _, rfl, _, _, rfl, rfl, _, _, rfl, rfl, by show 2 + h.fmod 7 - 1 ≠ 0; omega, ?_⟩
  have q1 : (1 : Nat) = ("q" : Str).length := by decide +kernel
  refine ⟨_, rfl, "q", _, rfl, rfl, mul_small q1.symm b1 (by omega), ?_⟩
  refine ⟨_, rfl, _, _, rfl, rfl, m10, "bcdfghjkmn", _, cA, rfl, rfl, (by decide +kernel), by rw [mod10 hj]; exact atI_nat hcA, ?_⟩
  rw [← hpl, ← hsz] at q
  have l1 := lenM "q" ((h.fdiv 7).fmod (2 + h.fmod 7 - 1)) q1.symm b1 (by omega)
  have l2 := lenM ⟨#[cB]⟩ (2 + h.fmod 7 - 1 - (h.fdiv 7).fmod (2 + h.fmod 7 - 1)) rfl (by omega) (by omega)
  refine ⟨_, _, rfl, rfl, by rw [sizeLine_eq]; show _ + 1 ≤ _; omega, ?_⟩
  refine ⟨_, rfl, _, _, rfl, rfl, ⟨by decide, by decide⟩, _, _, rfl, rfl, (by show (3 : Int) ≠ 0; decide), "qx7", _, cB, rfl, rfl, (by decide +kernel), by rw [hx]; exact atI_nat hcB, ?_⟩
  refine ⟨_, rfl, _, _, rfl, rfl, _, rfl, _, _, rfl, rfl, ⟨#[cB]⟩, _, rfl, rfl, mul_small rfl (by omega) (by omega), _, _, rfl, rfl, ?_, q H (Same.refl H)⟩
  have e : (Txt.mul "q" ((h.fdiv 7).fmod (2 + h.fmod 7 - 1)) ++ (⟨#[cA]⟩ : Str)).length = (Txt.mul "q" ((h.fdiv 7).fmod (2 + h.fmod 7 - 1))).length + 1 := by
    show (Array.append _ _).size = _
    exact Array.size_append
  rw [e, sizeLine_eq]
  omega
def spBoxG (K : PySem.W.Frag) : Sp := Sp3 fun st name most H Q => ∃ (F : Hp) (S : Addr) (x : Str), st = .ref S ∧ Gs S F H F H ∧ name = .str x ∧ most = .int 4 ∧
  ∀ F' H' v (b : Bx), Gs S F H F' H' → Da K F' v b.d → b.name = x → b.low ≤ b.start → b.start ≤ b.high → Q v H'
theorem ok_boxG (F : FunAt K mg "_law_box" s_l_box) (G : Glb K mg) (c_law_take : Cal P w K mg base "_law_take" 1 ["_law_state_here", "_law_many"] (spTake K)) : Cal P w K mg base "_law_box" 2 ["_law_state_here", "_law_name_here", "_law_most"] (spBoxG K) := by
  refine F.cal sc_l_box Sp3.len (fun _ _ _ _ _ _ us hl => match us, hl with | [_, _, _], _ => rfl) fun f cdv A outer s H vs Q E hr h => ?_
  have nd := sc_l_box.nd
  have hu := hu_of hr
  refine ⟨_, (pss_cons (ps_set (i := 3) nd rfl (Or.inl rfl) (pe_op op_sub pe_int (pe_cal c_law_take hr rfl (pa_cons (pv 0) (pa_cons (pv 2) pa_nil)))))
    (pss_cons (ps_set (i := 4) nd rfl (Or.inl rfl) (pe_op op_add (pv 3) (pe_cal c_law_take hr rfl (pa_cons (pv 0) (pa_cons (pe_op op_add (pe_op op_sub (pv 2) (pv 3)) pe_int) pa_nil)))))
    (pss_one (ps_ret (pe_tup (pa_cons (pv 1) (pa_cons (pv 3) (pa_cons (pv 4) (pa_cons (pe_op op_add (pv 3) (pe_cal c_law_take hr rfl (pa_cons (pv 0) (pa_cons (pe_op op_add (pe_op op_sub (pv 4) (pv 3)) pe_int) pa_nil)))) pa_nil))))))))), ?_⟩
  obtain ⟨st, name, most, rfl, F0, S, x, rfl, g0, rfl, rfl, q⟩ := h
  refine ⟨_, rfl, _, rfl, _, _, rfl, _, S, 4, rfl, g0.fh, g0.nf, g0.st, rfl, by decide, by decide, fun H1 a gr1 st1 a0 a4 => ?_⟩
  have g1 : Gs S F0 H F0 H1 := ⟨gr1, st1, g0.nf⟩
  refine ⟨_, _, rfl, rfl, ?_⟩
  refine ⟨_, rfl, _, rfl, _, rfl, _, rfl, _, _, rfl, rfl, _, _, rfl, rfl, _, _, rfl, _, S, _, rfl, g1.fh, g1.nf, g1.st, rfl, by omega, by omega, fun H2 b gr2 st2 b0 b1 => ?_⟩
  have g2 := g1.trans (⟨gr2, st2, g1.nf⟩ : Gs S F0 H1 F0 H2)
  refine ⟨_, _, rfl, rfl, ?_⟩
  refine ⟨_, rfl, _, rfl, _, rfl, _, rfl, _, rfl, _, rfl, _, rfl, _, _, rfl, rfl, _, _, rfl, rfl, _, _, rfl, _, S, _, rfl, g2.fh, g2.nf, g2.st, rfl, by omega, by omega, fun H3 c gr3 st3 c0 c1 => ?_⟩
  have g3 := g2.trans (⟨gr3, st3, g2.nf⟩ : Gs S F0 H2 F0 H3)
  refine ⟨_, _, rfl, rfl, (by show 4 ≤ sizeLine; decide), fun t p => ?_⟩
  exact q _ _ _ ⟨x, 0 - a, 0 - a + b, 0 - a + c⟩ (g3.newF p) (.tup (SqT.of upd_same) (.cons (.str _) (.cons (.int _) (.cons (.int _) (.cons (.int _) .nil))))) rfl (by show 0 - a ≤ 0 - a + c; omega) (by show 0 - a + c ≤ 0 - a + b; omega)
end
end Ca
namespace Ca
open PySem L2
def rngB (b : Bx) : Prop := b.low ≤ b.start ∧ b.start ≤ b.high
def TreeR (T : Tree) : Prop := (∀ b ∈ T.boxes, rngB b) ∧ (∀ h ∈ T.hands, ∀ b ∈ h.owns, rngB b) ∧ 1 ≤ T.hands.length
/-- boxes with the names f 0, f 1 .. -/
def BsOk (f : Nat → Str) (bs : List Bx) : Prop := bn bs = (List.range bs.length).map f ∧ ∀ b ∈ bs, rngB b
theorem BsOk.nil {f : Nat → Str} : BsOk f [] := ⟨rfl, fun _ h => nomatch h⟩
theorem BsOk.snoc {f : Nat → Str} {bs : List Bx} {b : Bx} (h : BsOk f bs) (e : b.name = f bs.length) (r : rngB b) : BsOk f (bs ++ [b]) := by
  refine ⟨?_, fun x hx => ?_⟩
  · unfold bn
    rw [List.map_append, List.length_append]
    show bn bs ++ [b.name] = (List.range (bs.length + 1)).map f
    rw [h.1, List.range_succ, List.map_append, e]
    rfl
  · rcases List.mem_append.mp hx with z | z
    · exact h.2 x z
    · rw [List.mem_singleton.mp z]
      exact r
def lockN (h : Int) : List Str := [nm h 3, "lk1", "lk2"]
def ow (o0 o1 : List Bx) : Nat → List Bx
  | 0 => o0
  | 1 => o1
  | _ => []
def owc (x y : Nat) : Nat → List Nat
  | 0 => (List.range x).map (4 + ·)
  | 1 => (List.range y).map fun _ => 9
  | _ => []
def codes (b cl n x y : Nat) : List Nat := List.range b ++ ([3, 10, 11] : List Nat).take cl ++ ((List.range n).map fun k => (k + 6) :: owc x y k).flatten
theorem codes_ok : ((List.range 3).all fun b => (List.range 4).all fun cl => (List.range 4).all fun n => (List.range 3).all fun x => (List.range 2).all fun y => decide (codes b cl n x y).Nodup && (codes b cl n x y).all fun c => decide (c < 12)) = true := by decide +kernel
def nmC (h : Int) (c : Nat) : Str := (nmL10 h ++ [("lk1" : Str), ("lk2" : Str)]).getD c ""
theorem nmC_lt {h : Int} {c : Nat} (k : c < 10) : nmC h c = nm h c := by
  unfold nmC nm
  rw [List.getD_eq_getElem?_getD, List.getD_eq_getElem?_getD, List.getElem?_append_left (by rw [nm_len]; exact k)]
theorem nmC_10 {h : Int} : nmC h 10 = "lk1" ∧ nmC h 11 = "lk2" := by
  unfold nmC
  have e := nm_len h
  constructor
  · rw [List.getD_eq_getElem?_getD, List.getElem?_append_right (by rw [e]; exact Nat.le_refl _), e]
    rfl
  · rw [List.getD_eq_getElem?_getD, List.getElem?_append_right (by rw [e]; decide), e]
    rfl
theorem nmC_inj {h : Int} {a b : Nat} (ha : a < 12) (hb : b < 12) (e : nmC h a = nmC h b) : a = b := by
  have hl : (nmL10 h ++ [("lk1" : Str), ("lk2" : Str)]).length = 12 := by rw [List.length_append, nm_len]; rfl
  unfold nmC at e
  rw [List.getD_eq_getElem?_getD, List.getD_eq_getElem?_getD, List.getElem?_eq_getElem (by omega), List.getElem?_eq_getElem (by omega)] at e
  have e' : (nmL10 h ++ [("lk1" : Str), ("lk2" : Str)])[a]? = (nmL10 h ++ [("lk1" : Str), ("lk2" : Str)])[b]? := by
    rw [List.getElem?_eq_getElem (by omega), List.getElem?_eq_getElem (by omega)]
    exact congrArg some e
  exact (List.getElem?_inj (by omega) (nm_nd h)).mp e'
theorem nodup_mapOn {α β : Type} {f : α → β} : ∀ {l : List α}, (∀ a ∈ l, ∀ b ∈ l, f a = f b → a = b) → l.Nodup → (l.map f).Nodup
  | [], _, _ => List.nodup_nil
  | a :: l, h, nd => by
    rw [List.nodup_cons] at nd
    rw [List.map_cons, List.nodup_cons]
    refine ⟨fun z => ?_, nodup_mapOn (fun x hx y hy => h x (List.mem_cons_of_mem _ hx) y (List.mem_cons_of_mem _ hy)) nd.2⟩
    obtain ⟨b, hb, e⟩ := List.mem_map.mp z
    rw [h b (List.mem_cons_of_mem _ hb) a List.mem_cons_self e] at hb
    exact nd.1 hb
def nmLp (l : List (Str × List Bx)) : List Str := (l.map fun p => p.1 :: bn p.2).flatten
theorem nmL_p (hs : List Hnd) : nmL hs = nmLp (hs.map fun x => (x.name, x.owns)) := by
  unfold nmL nmLp
  rw [List.map_map]
  rfl
def EoT (h : Int) (bs o0 o1 : List Bx) (cl n : Nat) (os : List Bx) : En := ⟨bn bs ++ bn os, (lockN h).take cl, bn bs ++ (lockN h).take cl ++ (bn o0 ++ (if 1 < n then bn o1 else [])), (List.range n).map fun k => nm h (k + 6)⟩
section
variable {h : Int} {n cl : Nat} {bs o0 o1 : List Bx} {hs : List Hnd}
theorem names_eq (oB : BsOk (nm h) bs) (b2 : bs.length ≤ 2) (n3 : n ≤ 3) (oo0 : BsOk (fun j => nm h (4 + j)) o0) (ol0 : o0.length ≤ 2) (oo1 : BsOk (fun _ => nm h 9) o1) (ol1 : o1.length ≤ 1) (hl : hs.map (fun x => (x.name, x.owns)) = (List.range n).map fun k => (nm h (k + 6), ow o0 o1 k)) :
    (⟨bs, (lockN h).take cl, hs⟩ : Tree).names = (codes bs.length cl n o0.length o1.length).map (nmC h) := by
  unfold Tree.names codes
  rw [nmL_p, hl, List.map_append, List.map_append, oB.1]
  congr 1
  · congr 1
    · refine List.map_congr_left fun c hc => ?_
      have := List.mem_range.mp hc
      exact (nmC_lt (by omega)).symm
    · rw [List.map_take]
      have e : lockN h = [3, 10, 11].map (nmC h) := by
        show [nm h 3, "lk1", "lk2"] = [nmC h 3, nmC h 10, nmC h 11]
        rw [nmC_lt (by decide), nmC_10.1, nmC_10.2]
      rw [← e]
  · unfold nmLp
    rw [List.map_flatten, List.map_map, List.map_map]
    congr 1
    refine List.map_congr_left fun k hk => ?_
    have hk' := List.mem_range.mp hk
    show nm h (k + 6) :: bn (ow o0 o1 k) = nmC h (k + 6) :: (owc o0.length o1.length k).map (nmC h)
    rw [nmC_lt (by omega)]
    congr 1
    match k with
    | 0 =>
      show bn o0 = ((List.range o0.length).map (4 + ·)).map (nmC h)
      rw [oo0.1, List.map_map]
      refine List.map_congr_left fun c hc => ?_
      have := List.mem_range.mp hc
      exact (nmC_lt (by omega)).symm
    | 1 =>
      show bn o1 = ((List.range o1.length).map fun _ => 9).map (nmC h)
      rw [oo1.1, List.map_map]
      exact List.map_congr_left fun c hc => (nmC_lt (by decide)).symm
    | _ + 2 => rfl
theorem names_nd (oB : BsOk (nm h) bs) (b2 : bs.length ≤ 2) (cl3 : cl ≤ 3) (n3 : n ≤ 3) (oo0 : BsOk (fun j => nm h (4 + j)) o0) (ol0 : o0.length ≤ 2) (oo1 : BsOk (fun _ => nm h 9) o1) (ol1 : o1.length ≤ 1) (hl : hs.map (fun x => (x.name, x.owns)) = (List.range n).map fun k => (nm h (k + 6), ow o0 o1 k)) :
    (⟨bs, (lockN h).take cl, hs⟩ : Tree).names.Nodup := by
  rw [names_eq oB b2 n3 oo0 ol0 oo1 ol1 hl]
  have g := codes_ok
  rw [List.all_eq_true] at g
  have g := g bs.length (List.mem_range.mpr (by omega))
  rw [List.all_eq_true] at g
  have g := g cl (List.mem_range.mpr (by omega))
  rw [List.all_eq_true] at g
  have g := g n (List.mem_range.mpr (by omega))
  rw [List.all_eq_true] at g
  have g := g o0.length (List.mem_range.mpr (by omega))
  rw [List.all_eq_true] at g
  have g := g o1.length (List.mem_range.mpr (by omega))
  rw [Bool.and_eq_true, decide_eq_true_iff, List.all_eq_true] at g
  exact nodup_mapOn (fun a ha b hb e => nmC_inj (of_decide_eq_true (g.2 a ha)) (of_decide_eq_true (g.2 b hb)) e) g.1
theorem tree_ok (oB : BsOk (nm h) bs) (b1 : 1 ≤ bs.length) (b2 : bs.length ≤ 2) (cl3 : cl ≤ 3) (n1 : 1 ≤ n) (n3 : n ≤ 3) (oo0 : BsOk (fun j => nm h (4 + j)) o0) (ol0 : o0.length ≤ 2) (oo1 : BsOk (fun _ => nm h 9) o1) (ol1 : o1.length ≤ 1) (hl : hs.map (fun x => (x.name, x.owns)) = (List.range n).map fun k => (nm h (k + 6), ow o0 o1 k))
    (hr : ∀ x ∈ hs, ∃ rs, x.rows = [.label "lab"] ++ rs ++ [.label "fin"] ∧ rs.length ≤ 10 ∧ ∀ r ∈ rs, Row.Ok (EoT h bs o0 o1 cl n x.owns) 3 r) (c1 : (hs.map fun h => 2 + (cntR h.rows).1).sum ≤ 24) (c2 : (hs.map fun h => (cntR h.rows).2).sum ≤ 40) :
    (⟨bs, (lockN h).take cl, hs⟩ : Tree).Ok ∧ TreeR ⟨bs, (lockN h).take cl, hs⟩ := by
  have hn : hs.length = n := by
    have e := congrArg List.length hl
    rw [List.length_map, List.length_map, List.length_range] at e
    exact e
  have hown : ∀ x ∈ hs, ∃ k, k < n ∧ x.owns = ow o0 o1 k ∧ (nm h (k + 6), ow o0 o1 k) ∈ hs.map fun x => (x.name, x.owns) := fun x hx => by
    have m : (x.name, x.owns) ∈ hs.map fun x => (x.name, x.owns) := List.mem_map.mpr ⟨x, hx, rfl⟩
    have m' := m
    rw [hl] at m
    obtain ⟨k, hk, e⟩ := List.mem_map.mp m
    refine ⟨k, List.mem_range.mp hk, (Prod.mk.inj e).2.symm, ?_⟩
    rw [e]
    exact m'
  have owl : ∀ k, (ow o0 o1 k).length ≤ 10 ∧ ∀ b ∈ ow o0 o1 k, rngB b := fun k => by
    match k with
    | 0 => exact ⟨by show o0.length ≤ 10; omega, oo0.2⟩
    | 1 => exact ⟨by show o1.length ≤ 10; omega, oo1.2⟩
    | _ + 2 => exact ⟨Nat.zero_le _, fun _ h => nomatch h⟩
  have hhn : (⟨bs, (lockN h).take cl, hs⟩ : Tree).hn = (List.range n).map fun k => nm h (k + 6) := by
    have e := congrArg (List.map Prod.fst) hl
    rw [List.map_map, List.map_map] at e
    exact e
  have inOwn : ∀ k, k < n → ∀ x ∈ bn (ow o0 o1 k), x ∈ (ownL hs).map (·.1) := fun k hk x hx => by
    have m : (nm h (k + 6), ow o0 o1 k) ∈ hs.map fun x => (x.name, x.owns) := by
      rw [hl]
      exact List.mem_map.mpr ⟨k, List.mem_range.mpr hk, rfl⟩
    obtain ⟨y, hy, e⟩ := List.mem_map.mp m
    have e2 : y.owns = ow o0 o1 k := (Prod.mk.inj e).2
    obtain ⟨b, hb, rfl⟩ := List.mem_map.mp hx
    rw [← e2] at hb
    exact List.mem_map.mpr ⟨(b.name, y.name), mem_ownL hy hb, rfl⟩
  refine ⟨⟨by show hs.length ≤ 3; omega, by show bs.length ≤ 10; omega, by show ((lockN h).take cl).length ≤ 10; rw [List.length_take]; omega, fun x hx => ?_, names_nd oB b2 cl3 n3 oo0 ol0 oo1 ol1 hl, fun x hx => ?_, c1, c2⟩, oB.2, fun x hx b hb => ?_, by show 1 ≤ hs.length; omega⟩
  · obtain ⟨k, _, e, _⟩ := hown x hx
    rw [e]
    exact (owl k).1
  · obtain ⟨rs, e, l, o⟩ := hr x hx
    obtain ⟨k, hk, eo, _⟩ := hown x hx
    refine ⟨rs, _, e, l, o, fun y hy => List.mem_append.mp hy, fun y hy => hy, hhn.symm, fun y hy => ?_⟩
    rcases List.mem_append.mp hy with z | z
    · rcases List.mem_append.mp z with z | z
      · exact .inl z
      · exact .inr (.inl z)
    · refine .inr (.inr ?_)
      rcases List.mem_append.mp z with z | z
      · exact inOwn 0 (by omega) y z
      · by_cases c : 1 < n
        · rw [if_pos c] at z
          exact inOwn 1 c y z
        · rw [if_neg c] at z
          exact nomatch z
  · obtain ⟨k, _, e, _⟩ := hown x hx
    rw [e] at hb
    exact (owl k).2 b hb
end
end Ca
namespace Ca
open PySem L2
abbrev s_l_tree : Stmt := top 63
abbrev N_l_tree : List Str := ["_law_head", "_law_state_here", "_law_most", "_law_deep", "_law_boxes", "_law_many", "_law_names", "_law_owns", "_law_room", "_law_locks", "_law_made", "_law_common", "_law_hands", "_law_places", "_law_steps", "_law_k", "_law_mine", "_law_rows_here", "_law_count_here", "_law_left", "_law_box_here", "_law_j"]
theorem sc_l_tree : FnScope N_l_tree ["_law_head", "_law_state_here", "_law_most", "_law_deep"] (defScope s_l_tree) := ⟨rfl, rfl, rfl, by decide +kernel, rfl, by decide +kernel, by decide +kernel⟩
-- cells: ['_law_head', '_law_most', '_law_state_here']  slots: 0=_law_head 1=_law_state_here 2=_law_most 3=_law_deep 4=_law_boxes 5=_law_many 6=_law_names 7=_law_owns 8=_law_room 9=_law_locks 10=_law_made 11=_law_common 12=_law_hands 13=_law_places 14=_law_steps 15=_law_k 16=_law_mine 17=_law_rows_here 18=_law_count_here 19=_law_left 20=_law_box_here 21=_law_j
section
variable {P : Program} {w : World} {K : PySem.W.Frag} {mg : Str → Option Value} {base : Heap}
/-- a comprehension of boxes -/
def LcB (K : PySem.W.Frag) (S : Addr) (F H1 : Hp) (f : Nat → Str) (D : Addr) (i : Nat) (H' : Hp) : Prop := H1 D = none ∧ D ≠ S ∧ ∃ F' acc bs, Gs S F H1 F' H' ∧ F' D = none ∧ H' D = some (.lst acc) ∧ Das K F' acc (bs.map Bx.d) ∧ bs.length = i ∧ BsOk f bs
theorem LcB.start {S : Addr} {F H1 : Hp} {f : Nat → Str} {D : Addr} (g : Gs S F H1 F H1) (hD : H1 D = none) : LcB K S F H1 f D 0 (upd H1 D (.lst [])) :=
  ⟨hD, stt_ne g.st hD, F, [], [], g.new hD, g.fh.free hD, upd_same, .nil, rfl, .nil⟩
theorem LcB.put {S : Addr} {F H1 F' H' F2 H2 : Hp} {f : Nat → Str} {D : Addr} {i : Nat} {acc : List V} {bs : List Bx} {v : V} {b : Bx} (hD : H1 D = none) (nS : D ≠ S) (g : Gs S F H1 F' H') (n : F' D = none) (e : H' D = some (.lst acc)) (da : Das K F' acc (bs.map Bx.d)) (bl : bs.length = i) (bo : BsOk f bs) (g2 : Gs S F' H' F2 H2) (d : Da K F2 v b.d) (en : b.name = f i) (r : rngB b) (hi : i < 1000) :
    ∃ acc, H2 D = some (.lst acc) ∧ acc.length < sizeLine ∧ LcB K S F H1 f D (i + 1) (upd H2 D (.lst (acc ++ [v]))) := by
  have e2 := g2.kpD e nS
  have n2 := g2.gr.non e n
  refine ⟨acc, e2, ?_, hD, nS, F2, acc ++ [v], bs ++ [b], (g.trans g2).set n2 e2 hD nS, n2, upd_same, ?_, by rw [List.length_append, bl]; rfl, bo.snoc (by rw [bl]; exact en) r⟩
  · have := da.lenM
    rw [sizeLine_eq]
    omega
  · rw [List.map_append]
    exact (da.mono g2.ff).app (.cons d .nil)
theorem LcB.end_ {S : Addr} {F H1 H' : Hp} {f : Nat → Str} {D : Addr} {n : Nat} (h : LcB K S F H1 f D n H') : ∃ F' bs, Gs S F H1 F' H' ∧ Da K F' (.ref D) (.list (bs.map Bx.d)) ∧ bs.length = n ∧ BsOk f bs := by
  obtain ⟨hD, nS, F', acc, bs, g, nD, e, da, bl, bo⟩ := h
  exact ⟨_, bs, g.frz nD e hD nS, .lst upd_same (da.mono (Same.new nD)), bl, bo⟩
def spTree (K : PySem.W.Frag) : Sp := Sp4 fun head st most deep H Q => ∃ (F : Hp) (S : Addr) (h : Int), head = .int h ∧ st = .ref S ∧ Gs S F H F H ∧ most = .int 4 ∧ deep = .int 2 ∧
  ∀ F' H' v (T : Tree), Gs S F H F' H' → Da K F' v T.d → T.Ok → TreeR T → Q v H'
/-- where a list of names stands -/
def NmF (F : Hp) (a : Addr) (N : List Str) : Prop := F a = some (.lst (N.map V.str))
theorem stm_eq {a b : List Row} (e : stm a = stm b) : cntR a = cntR b := by
  unfold cntR cntX
  rw [e, cntS_eq, cntS_eq, e]
theorem cnt_lab (rs : List Row) : cntR ([Row.label "lab"] ++ rs ++ [Row.label "fin"]) = cntR rs := stm_eq stm_lab
theorem ok_tree (F : FunAt K mg "_law_tree" s_l_tree) (G : Glb K mg) (c_law_take : Cal P w K mg base "_law_take" 1 ["_law_state_here", "_law_many"] (spTake K)) (c_law_name : Cal P w K mg base "_law_name" 1 ["_law_head", "_law_k"] spName) (c_law_box : Cal P w K mg base "_law_box" 2 ["_law_state_here", "_law_name_here", "_law_most"] (spBoxG K))
    (c_law_rows : Cal P w K mg base "_law_rows" 17 ["_law_state_here", "_law_made", "_law_mine", "_law_deep", "_law_many"] (spRowsG K 3)) (c_law_counts : Cal P w K mg base "_law_counts" 8 ["_law_rows_here"] (spLCounts K 3)) : Cal P w K mg base "_law_tree" 18 ["_law_head", "_law_state_here", "_law_most", "_law_deep"] (spTree K) := by
  refine F.cal sc_l_tree Sp4.len (fun _ _ _ _ _ _ us hl => match us, hl with | [_, _, _, _], _ => rfl) fun f cdv A outer s H vs Q E hr h => ?_
  have nd := sc_l_tree.nd
  have hu := hu_of hr
  have m_int := G.int
  have m_len := G.len
  have m_min := G.min
  have m_range := G.range
  refine ⟨_, (Evl.pss_cut (ps_setLc (i := 4) rfl nd rfl rfl (sw_true rfl rfl rfl (by decide +kernel)) (own := [("_law_k", 15)]) (g := (gName 15)) (tt := tYes) (pi_range1 rfl m_range (pa_cons (pe_op op_add pe_int (pe_cal c_law_take hr rfl (pa_cons (pv 1) (pa_cons pe_int pa_nil)))) pa_nil)) (blkOk_by (own := [("_law_k", 15)]) (N := N_l_tree) (sc := defScope s_l_tree) (by decide +kernel)) (fun _ _ _ _ _ => (pg_name (i := 15) nd rfl (Or.inl rfl))) (fun _ _ _ _ _ => pts_nil) (fun _ _ _ _ _ => (pe_cal c_law_box hr rfl (pa_cons (pv 1) (pa_cons (pe_cal c_law_name hr rfl (pa_cons (pv 0) (pa_cons (pv 15) pa_nil))) (pa_cons (pv 2) pa_nil))))))
    (Evl.pss_cut (ps_set (i := 5) nd rfl (Or.inl rfl) (pe_cal c_law_take hr rfl (pa_cons (pv 1) (pa_cons pe_int pa_nil))))
    (Evl.pss_cut (ps_setLc (i := 6) rfl nd rfl rfl (sw_true rfl rfl rfl (by decide +kernel)) (own := [("_law_k", 15)]) (g := (gName 15)) (tt := tYes) (pi_range1 rfl m_range (pa_cons (pe_op op_add pe_int (pe_cal c_law_take hr rfl (pa_cons (pv 1) (pa_cons pe_int pa_nil)))) pa_nil)) (blkOk_by (own := [("_law_k", 15)]) (N := N_l_tree) (sc := defScope s_l_tree) (by decide +kernel)) (fun _ _ _ _ _ => (pg_name (i := 15) nd rfl (Or.inl rfl))) (fun _ _ _ _ _ => pts_nil) (fun _ _ _ _ _ => (pe_cal c_law_name hr rfl (pa_cons (pv 0) (pa_cons (pe_op op_add (pv 15) pe_int) pa_nil)))))
    (pss_cons (ps_set (i := 7) nd rfl (Or.inl rfl) (pe_lst (pa_cons (pe_lc (own := [("_law_j", 21)]) (g := (gName 21)) (tt := tYes) rfl nd (pi_range1 rfl m_range (pa_cons (pe_cal c_law_take hr rfl (pa_cons (pv 1) (pa_cons pe_int pa_nil))) pa_nil)) (blkOk_by (own := [("_law_j", 21)]) (N := N_l_tree) (sc := defScope s_l_tree) (by decide +kernel)) (fun _ _ _ _ _ => (pg_name (i := 21) nd rfl (Or.inl rfl))) (fun _ _ _ _ _ => pts_nil) (fun _ _ _ _ _ => (pe_cal c_law_box hr rfl (pa_cons (pv 1) (pa_cons (pe_cal c_law_name hr rfl (pa_cons (pv 0) (pa_cons (pe_op op_add pe_int (pv 21)) pa_nil))) (pa_cons (pv 2) pa_nil)))))) pa_nil)))
    (Evl.pss_cut (ps_set (i := 7) nd rfl (Or.inl rfl) (pe_op op_cat (pv 7) (pe_lst (pa_cons (pe_slice sl_list (pe_lst (pa_cons (pe_cal c_law_box hr rfl (pa_cons (pv 1) (pa_cons (pe_cal c_law_name hr rfl (pa_cons (pv 0) (pa_cons pe_int pa_nil))) (pa_cons (pv 2) pa_nil)))) pa_nil)) po_none (po_some (pe_cal c_law_take hr rfl (pa_cons (pv 1) (pa_cons pe_int pa_nil))))) (pa_cons (pe_lst pa_nil) pa_nil)))))
    (pss_cons (ps_set (i := 8) nd rfl (Or.inl rfl) (pe_op op_sub (pe_op op_sub pe_int (pe_callB call_len_seq (by rfl) m_len (by decide +kernel) (pa_cons (pv 4) pa_nil))) (pe_callB call_len_seq (by rfl) m_len (by decide +kernel) (pa_cons (pe_op op_cat (pe_ix ix_list (pv 7) pe_int (fun _ _ => rfl)) (pe_ix ix_list (pv 7) pe_int (fun _ _ => rfl))) pa_nil))))
    (Evl.pss_cut (ps_set (i := 9) nd rfl (Or.inl rfl) (pe_slice sl_list (pe_lst (pa_cons (pe_cal c_law_name hr rfl (pa_cons (pv 0) (pa_cons pe_int pa_nil))) (pa_cons pe_str (pa_cons pe_str pa_nil)))) po_none (po_some (pe_callB (call_min2 rfl) (by rfl) m_min (by decide +kernel) (pa_cons (pv 5) (pa_cons (pv 8) pa_nil))))))
    (pss_cons (ps_set (i := 10) nd rfl (Or.inl rfl) (pe_disp (pps_cons pe_str (pv 9) (pps_cons pe_str (pv 6) pps_nil)) (by rfl) (by rfl) (fun z => by cases z) (by decide)))
    (pss_cons (ps_setLc (i := 11) rfl nd rfl rfl (sw_true rfl rfl rfl (by decide +kernel)) (own := [("_law_box_here", 20)]) (g := (gName 20)) (tt := tYes) (pi_list (pv 4)) (blkOk_by (own := [("_law_box_here", 20)]) (N := N_l_tree) (sc := defScope s_l_tree) (by decide +kernel)) (fun _ _ _ _ _ => (pg_name (i := 20) nd rfl (Or.inl rfl))) (fun _ _ _ _ _ => pts_nil) (fun _ _ _ _ _ => (pe_ix (ix_tupK (K := K) rfl) (pv 20) pe_int (fun _ _ => rfl))))
    (Evl.pss_cut (ps_dput hu (pv 10) pe_str (pe_op op_cat (pe_op op_cat (pv 11) (pv 9)) (pe_lc (own := [("_law_box_here", 20)]) (g := (gName 20)) (tt := tYes) rfl nd (pi_list (pe_op op_cat (pe_ix ix_list (pv 7) pe_int (fun _ _ => rfl)) (pe_op op_rep (pe_ix ix_list (pv 7) pe_int (fun _ _ => rfl)) (pe_callTy call_int1 (by rfl) m_int (by decide +kernel) (pa_cons (pe_cmpR op_gt (pe_callB call_len_seq (by rfl) m_len (by decide +kernel) (pa_cons (pe_dget hu (pv 10) pe_str (fun _ _ => rfl)) pa_nil)) pe_int (nomark _)) pa_nil))))) (blkOk_by (own := [("_law_box_here", 20)]) (N := N_l_tree) (sc := defScope s_l_tree) (by decide +kernel)) (fun _ _ _ _ _ => (pg_name (i := 20) nd rfl (Or.inl rfl))) (fun _ _ _ _ _ => pts_nil) (fun _ _ _ _ _ => (pe_ix (ix_tupK (K := K) rfl) (pv 20) pe_int (fun _ _ => rfl))))) rfl)
    (pss_cons (ps_set (i := 12) nd rfl (Or.inl rfl) (pe_lst pa_nil))
    (pss_cons (ps_set (i := 13) nd rfl (Or.inl rfl) pe_int)
    (pss_cons (ps_set (i := 14) nd rfl (Or.inl rfl) pe_int)
    (pss_cons (ps_for PassesOwn.never rfl (pi_range1 rfl m_range (pa_cons (pe_callB call_len_seq (by rfl) m_len (by decide +kernel) (pa_cons (pe_dget hu (pv 10) pe_str (fun _ _ => rfl)) pa_nil)) pa_nil)) (pg_name (i := 15) nd rfl (Or.inl rfl))
      (pss_cons (ps_set (i := 16) nd rfl (Or.inl rfl) (pe_op op_cat (pv 11) (pe_lc (own := [("_law_box_here", 20)]) (g := (gName 20)) (tt := tYes) rfl nd (pi_list (pe_ix ix_list (pv 7) (pv 15) (fun _ _ => rfl))) (blkOk_by (own := [("_law_box_here", 20)]) (N := N_l_tree) (sc := defScope s_l_tree) (by decide +kernel)) (fun _ _ _ _ _ => (pg_name (i := 20) nd rfl (Or.inl rfl))) (fun _ _ _ _ _ => pts_nil) (fun _ _ _ _ _ => (pe_ix (ix_tupK (K := K) rfl) (pv 20) pe_int (fun _ _ => rfl))))))
      (pss_cons (ps_set (i := 17) nd rfl (Or.inl rfl) (pe_cal c_law_rows hr rfl (pa_cons (pv 1) (pa_cons (pv 10) (pa_cons (pv 16) (pa_cons (pv 3) (pa_cons pe_int pa_nil)))))))
      (pss_cons (ps_set (i := 18) nd rfl (Or.inl rfl) (pe_cal c_law_counts hr rfl (pa_cons (pv 17) pa_nil)))
      (pss_cons (ps_set (i := 19) nd rfl (Or.inl rfl) (pe_op op_sub (pe_op op_sub (pe_callB call_len_seq (by rfl) m_len (by decide +kernel) (pa_cons (pe_dget hu (pv 10) pe_str (fun _ _ => rfl)) pa_nil)) (pv 15)) pe_int))
      (Evl.pss_cut (ps_if (PW.pt (pw_or (pt_cmpR op_gt (pe_op op_add (pe_op op_add (pv 13) pe_int) (pe_ix ix_tup (pv 18) pe_int (fun _ _ => rfl))) (pe_op op_sub pe_int (pe_op op_mul pe_int (pv 19))) (nomark _)) (pw_or1 (pt_cmpR op_gt (pe_op op_add (pv 14) (pe_ix ix_tup (pv 18) pe_int (fun _ _ => rfl))) (pe_op op_sub pe_int (pv 19)) (nomark _))))) (pss_cons (ps_set (i := 17) nd rfl (Or.inl rfl) (pe_lst pa_nil))
        (pss_one (ps_set (i := 18) nd rfl (Or.inl rfl) (pe_tup (pa_cons pe_int (pa_cons pe_int pa_nil)))))) pss_nil)
      (pss_cons (ps_set (i := 13) nd rfl (Or.inl rfl) (pe_op op_add (pe_op op_add (pv 13) pe_int) (pe_ix ix_tup (pv 18) pe_int (fun _ _ => rfl))))
      (pss_cons (ps_set (i := 14) nd rfl (Or.inl rfl) (pe_op op_add (pv 14) (pe_ix ix_tup (pv 18) pe_int (fun _ _ => rfl))))
      (pss_one (ps_expr (pe_bm PySem.F.plainAttrs_list PySem.F.slot_list_append PySem.F.type_list_append mt_append (pv 12) (pa_cons (pe_tup (pa_cons (pe_ix ix_list (pe_dget hu (pv 10) pe_str (fun _ _ => rfl)) (pv 15) (fun _ _ => rfl)) (pa_cons (pe_ix ix_list (pv 7) (pv 15) (fun _ _ => rfl)) (pa_cons (pe_op op_cat (pe_op op_cat (pe_lst (pa_cons (pe_tup (pa_cons pe_str (pa_cons pe_str pa_nil))) pa_nil)) (pv 17)) (pe_lst (pa_cons (pe_tup (pa_cons pe_str (pa_cons pe_str pa_nil))) pa_nil))) pa_nil)))) pa_nil))))))))))))
    (pss_one (ps_ret (pe_tup (pa_cons (pv 4) (pa_cons (pv 9) (pa_cons (pv 12) pa_nil)))))))))))))))))))), ?_⟩
  obtain ⟨head, st, most, deep, rfl, F0, S, h, rfl, rfl, g0, rfl, rfl, q⟩ := h
  refine ⟨fun σ' H' => ∃ (F1 : Hp) (LB : Addr) (bs : List Bx), σ' = [some (.int h), some (.ref S), some (.int 4), some (.int 2), some (.ref LB), none, none, none, none, none, none, none, none, none, none, none, none, none, none, none, none, none] ∧ Gs S F0 H F1 H' ∧ Da K F1 (.ref LB) (.list (bs.map Bx.d)) ∧ BsOk (nm h) bs ∧ 1 ≤ bs.length ∧ bs.length ≤ 2, ?_, ?_⟩
  · refine ⟨_, rfl, _, _, rfl, _, S, 2, rfl, g0.fh, g0.nf, g0.st, rfl, by decide, by decide, fun H1 c grH1 stH1 c0 c1 => ?_⟩
    have g1 : Gs S F0 H F0 H1 := ⟨grH1, stH1, g0.nf⟩
    refine ⟨_, _, rfl, rfl, 1 + c, rfl, by omega, by omega, fun D hD => lc_range (lo := 0) (n := (1 + c).toNat) (LcB K S F0 H1 (nm h) D) (LcB.start g1.sub hD) ?_ ?_⟩
    · rintro i H2 hi ⟨hD', nS, F', acc, bs, g, nD, e, da, bl, bo⟩
      refine ⟨rfl, _, rfl, _, rfl, _, rfl, _, _, rfl, h, i, rfl, congrArg V.int (Int.zero_add _), by omega, fun H3 e3 => ⟨_, rfl, _, _, _, rfl, F', S, nm h i, rfl, (g.same e3).sub, rfl, rfl, fun F4 H4 v b g4 d4 en r1 r2 => ?_⟩⟩
      exact LcB.put hD' nS (g.same e3) nD (e3 _ _ e) da bl bo g4 d4 en ⟨r1, r2⟩ (by omega)
    · intro H2 z
      obtain ⟨F', bs, g, d, bl, bo⟩ := z.end_
      exact ⟨F', D, bs, rfl, g1.trans g, d, bo, by omega, by omega⟩
  rintro σ' H1 ⟨F1, LB, bs, rfl, g1, dB, oB, b1, b2⟩
  refine ⟨fun σ' H' => ∃ (F1 : Hp) (LB : Addr) (bs : List Bx) (mn : Int), σ' = [some (.int h), some (.ref S), some (.int 4), some (.int 2), some (.ref LB), some (.int mn), none, none, none, none, none, none, none, none, none, none, none, none, none, none, none, none] ∧ Gs S F0 H F1 H' ∧ Da K F1 (.ref LB) (.list (bs.map Bx.d)) ∧ BsOk (nm h) bs ∧ 1 ≤ bs.length ∧ bs.length ≤ 2 ∧ 0 ≤ mn ∧ mn < 4, ?_, ?_⟩
  · refine ⟨_, rfl, _, _, rfl, _, S, 4, rfl, g1.fh, g1.nf, g1.st, rfl, by decide, by decide, fun H2 c grH2 stH2 c0 c1 => ?_⟩
    have g2 : Gs S F0 H F1 H2 := g1.trans ⟨grH2, stH2, g1.nf⟩
    exact ⟨F1, LB, bs, c, rfl, g2, dB, oB, b1, b2, c0, c1⟩
  rintro σ' H1 ⟨F1, LB, bs, mn, rfl, g1, dB, oB, b1, b2, m0, m4⟩
  refine ⟨fun σ' H' => ∃ (F1 : Hp) (LB : Addr) (bs : List Bx) (mn : Int) (LN : Addr) (n : Nat), σ' = [some (.int h), some (.ref S), some (.int 4), some (.int 2), some (.ref LB), some (.int mn), some (.ref LN), none, none, none, none, none, none, none, none, none, none, none, none, none, none, none] ∧ Gs S F0 H F1 H' ∧ Da K F1 (.ref LB) (.list (bs.map Bx.d)) ∧ BsOk (nm h) bs ∧ 1 ≤ bs.length ∧ bs.length ≤ 2 ∧ 0 ≤ mn ∧ mn < 4 ∧ NmF F1 LN ((List.range n).map fun k => nm h (k + 6)) ∧ 1 ≤ n ∧ n ≤ 3, ?_, ?_⟩
  · refine ⟨_, rfl, _, _, rfl, _, S, 3, rfl, g1.fh, g1.nf, g1.st, rfl, by decide, by decide, fun H2 c grH2 stH2 c0 c1 => ?_⟩
    have g2 : Gs S F0 H F1 H2 := g1.trans ⟨grH2, stH2, g1.nf⟩
    refine ⟨_, _, rfl, rfl, 1 + c, rfl, by omega, by omega, fun D hD => lc_range (lo := 0) (n := (1 + c).toNat) (LcP H2 (List.range (1 + c).toNat) (fun k => some (.str (nm h (k + 6)))) D) (LcP.start hD) ?_ ?_⟩
    · intro i H3 hi z
      refine ⟨rfl, _, rfl, _, rfl, _, _, rfl, rfl, _, _, rfl, h, i + 6, rfl, congrArg V.int (by omega), by omega, fun H4 e4 => ?_⟩
      exact z.put e4 (List.getElem?_range hi) rfl (by rw [List.length_range]; omega)
    · intro H3 z
      have z' : LcP H2 (List.range (1 + c).toNat) (fun k => some (V.str (nm h (k + 6)))) D (List.range (1 + c).toNat).length H3 := by
        rw [List.length_range]
        exact z
      obtain ⟨z1, e3, z3⟩ := z'.end_
      rw [fm_map] at z3
      have g3 := (g2.same e3).frz (g2.fh.free hD) z3 (g2.gr.th _ hD) (stt_ne g2.st hD)
      have sf := Same.new (o := .lst ((List.range (1 + c).toNat).map fun k => V.str (nm h (k + 6)))) (g2.fh.free hD)
      refine ⟨_, LB, bs, mn, D, (1 + c).toNat, rfl, g3, dB.mono sf, oB, b1, b2, m0, m4, ?_, by omega, by omega⟩
      unfold NmF
      rw [upd_same, List.map_map]
      rfl
  rintro σ' H1 ⟨F1, LB, bs, mn, LN, n, rfl, g1, dB, oB, b1, b2, m0, m4, nN, n1, n3⟩
  -- owns
  refine ⟨_, rfl, _, _, rfl, _, S, 3, rfl, g1.fh, g1.nf, g1.st, rfl, by decide, by decide, fun H2 c grH2 stH2 c0 c1 => ?_⟩
  have g2 : Gs S F0 H F1 H2 := g1.trans ⟨grH2, stH2, g1.nf⟩
  refine ⟨c, rfl, by omega, by omega, fun D hD => lc_range (lo := 0) (n := c.toNat) (LcB K S F1 H2 (fun j => nm h (4 + j)) D) (LcB.start g2.sub hD) ?_ ?_⟩
  · rintro i H3 hi ⟨hD', nS, F', acc, bs', g, nD, e, da, bl, bo⟩
    refine ⟨rfl, _, rfl, _, rfl, _, rfl, _, _, rfl, rfl, _, _, rfl, h, 4 + i, rfl, congrArg V.int (by omega), by omega, fun H4 e4 => ⟨_, rfl, _, _, _, rfl, F', S, nm h (4 + i), rfl, (g.same e4).sub, rfl, rfl, fun F5 H5 v b g5 d5 en r1 r2 => ?_⟩⟩
    exact LcB.put hD' nS (g.same e4) nD (e4 _ _ e) da bl bo g5 d5 en ⟨r1, r2⟩ (by omega)
  intro H3 z
  obtain ⟨F3, o0, g3', d0, ol0, oo0⟩ := z.end_
  have g3 := g2.trans g3'
  refine ⟨(by show 1 ≤ sizeLine; decide), fun l hl => ?_⟩
  have g4 := g3.newF (o := .lst [.ref D]) hl
  have s4 := Same.new (o := .lst [.ref D]) (g3.fh.free hl)
  have l4 : upd F3 l (.lst [.ref D]) l = some (.lst [.ref D]) := upd_same
  refine ⟨fun σ' H' => ∃ (F1 : Hp) (LB : Addr) (bs : List Bx) (mn : Int) (LN : Addr) (n : Nat) (LO A0 A1 A2 : Addr) (o0 o1 : List Bx), σ' = [some (.int h), some (.ref S), some (.int 4), some (.int 2), some (.ref LB), some (.int mn), some (.ref LN), some (.ref LO), none, none, none, none, none, none, none, none, none, none, none, none, none, none] ∧ Gs S F0 H F1 H' ∧ Da K F1 (.ref LB) (.list (bs.map Bx.d)) ∧ BsOk (nm h) bs ∧ 1 ≤ bs.length ∧ bs.length ≤ 2 ∧ 0 ≤ mn ∧ mn < 4 ∧ NmF F1 LN ((List.range n).map fun k => nm h (k + 6)) ∧ 1 ≤ n ∧ n ≤ 3 ∧ Da K F1 (.ref A0) (.list (o0.map Bx.d)) ∧ BsOk (fun j => nm h (4 + j)) o0 ∧ o0.length ≤ 2 ∧ Da K F1 (.ref A1) (.list (o1.map Bx.d)) ∧ BsOk (fun _ => nm h 9) o1 ∧ o1.length ≤ 1 ∧ F1 A2 = some (.lst []) ∧ F1 LO = some (.lst [.ref A0, .ref A1, .ref A2]), ?_, ?_⟩
  · refine ⟨_, rfl, _, rfl, _, rfl, _, _, rfl, h, 9, rfl, rfl, by decide, fun H5 e5 => ⟨_, rfl, _, _, _, rfl, _, S, nm h 9, rfl, (g4.same e5).sub, rfl, rfl, fun F6 H6 v b g6' d6 en r1 r2 => ?_⟩⟩
    have g6 := (g4.same e5).trans g6'
    refine ⟨(by show 1 ≤ sizeLine; decide), fun p hp => ?_⟩
    have g7 := g6.new (o := .lst [v]) hp
    refine ⟨_, rfl, _, _, rfl, _, S, 2, rfl, g7.fh, g7.nf, g7.st, rfl, by decide, by decide, fun H8 j grH8 stH8 j0 j1 => ?_⟩
    have g8 : Gs S F0 H F6 H8 := g7.trans ⟨grH8, stH8, g7.nf⟩
    have p8 : H8 p = some (.lst [v]) := grH8.kp _ _ upd_same (stt_ne g6.st hp)
    have key : ∀ (o1 : List Bx) (vs : List V), Das K F6 vs (o1.map Bx.d) → BsOk (fun _ => nm h 9) o1 → o1.length ≤ 1 → ∀ p2, H8 p2 = none → ∀ p3, upd H8 p2 (.lst vs) p3 = none → ∀ p4, upd (upd H8 p2 (.lst vs)) p3 (.lst []) p4 = none → ∀ p5, upd (upd (upd H8 p2 (.lst vs)) p3 (.lst [])) p4 (.lst [.ref p2, .ref p3]) p5 = none →
        Gs S F0 H (upd (upd (upd F6 p2 (.lst vs)) p3 (.lst [])) p5 (.lst [.ref D, .ref p2, .ref p3])) (upd (upd (upd (upd H8 p2 (.lst vs)) p3 (.lst [])) p4 (.lst [.ref p2, .ref p3])) p5 (.lst [.ref D, .ref p2, .ref p3])) ∧ Same F3 (upd (upd (upd F6 p2 (.lst vs)) p3 (.lst [])) p5 (.lst [.ref D, .ref p2, .ref p3])) ∧
        Da K (upd (upd (upd F6 p2 (.lst vs)) p3 (.lst [])) p5 (.lst [.ref D, .ref p2, .ref p3])) (.ref p2) (.list (o1.map Bx.d)) ∧ (upd (upd (upd F6 p2 (.lst vs)) p3 (.lst [])) p5 (.lst [.ref D, .ref p2, .ref p3])) p3 = some (.lst []) := fun o1 vs dv bo bl p2 h2 p3 h3 p4 h4 p5 h5 => by
      have ga := g8.newF (o := .lst vs) h2
      have sa := Same.new (o := .lst vs) (g8.fh.free h2)
      have gb := ga.newF (o := .lst []) h3
      have sb := Same.new (o := .lst []) (ga.fh.free h3)
      have gc := gb.new (o := .lst [.ref p2, .ref p3]) h4
      have gd := gc.newF (o := .lst [.ref D, .ref p2, .ref p3]) h5
      have sd := Same.new (o := .lst [.ref D, .ref p2, .ref p3]) (gc.fh.free h5)
      exact ⟨gd, (((s4.trans g6'.ff).trans sa).trans sb).trans sd, .lst (sd _ _ (sb _ _ upd_same)) (((dv.mono sa).mono sb).mono sd), sd _ _ upd_same⟩
    have l8 : ∀ {H9 : Hp}, Same H8 H9 → H9 l = some (.lst [.ref D]) := fun e => e _ _ (g8.fh _ _ (g6'.ff _ _ l4))
    have s13 : Same F1 F3 := g3'.ff
    rcases two j0 j1 with rfl | rfl
    · have hc : cutV [v] none (some 0) = [] := rfl
      refine ⟨_, rfl, p, [v], rfl, SqL.of p8, fun p2 h2 => ⟨Nat.zero_le _, fun p3 h3 => ⟨(by show 2 ≤ sizeLine; decide), fun p4 h4 => ⟨l, p4, [.ref D], [.ref p2, .ref p3], rfl, rfl, l8 (((Same.new h2).trans (Same.new h3)).trans (Same.new h4)), upd_same, (by show 1 + 2 ≤ sizeLine; decide), fun p5 h5 => ?_⟩⟩⟩⟩
      obtain ⟨gd, sd, dd, ee⟩ := key [] [] .nil .nil (Nat.zero_le _) p2 h2 p3 h3 p4 h4 p5 h5
      have s1 := s13.trans sd
      exact ⟨_, LB, bs, mn, LN, n, p5, D, p2, p3, o0, [], rfl, gd, dB.mono s1, oB, b1, b2, m0, m4, s1 _ _ nN, n1, n3, d0.mono sd, oo0, by omega, dd, .nil, Nat.zero_le _, ee, upd_same⟩
    · have hc : cutV [v] none (some 1) = [v] := rfl
      refine ⟨_, rfl, p, [v], rfl, SqL.of p8, fun p2 h2 => ⟨Nat.zero_le _, fun p3 h3 => ⟨(by show 2 ≤ sizeLine; decide), fun p4 h4 => ⟨l, p4, [.ref D], [.ref p2, .ref p3], rfl, rfl, l8 (((Same.new h2).trans (Same.new h3)).trans (Same.new h4)), upd_same, (by show 1 + 2 ≤ sizeLine; decide), fun p5 h5 => ?_⟩⟩⟩⟩
      obtain ⟨gd, sd, dd, ee⟩ := key [b] [v] (.cons d6 .nil) (BsOk.snoc .nil en ⟨r1, r2⟩) (Nat.le_refl 1) p2 h2 p3 h3 p4 h4 p5 h5
      have s1 := s13.trans sd
      exact ⟨_, LB, bs, mn, LN, n, p5, D, p2, p3, o0, [b], rfl, gd, dB.mono s1, oB, b1, b2, m0, m4, s1 _ _ nN, n1, n3, d0.mono sd, oo0, by omega, dd, BsOk.snoc .nil en ⟨r1, r2⟩, Nat.le_refl 1, ee, upd_same⟩
  rintro σ' H1' ⟨F1', LB', bs', mn', LN', n', LO, A0, A1, A2, o0', o1, rfl, gm, dB', oB', b1', b2', m0', m4', nN', n1', n3', d0', oo0', ol0', d1, oo1, ol1, fA2, fLO⟩
  -- room, locks
  obtain ⟨bvs, eLB, fLB, vB⟩ : ∃ bvs, True ∧ F1' LB' = some (.lst bvs) ∧ Das K F1' bvs (bs'.map Bx.d) := by
    obtain ⟨a, xs, e, x1, x2⟩ := dB'.lst_inv
    cases e
    exact ⟨xs, trivial, x1, x2⟩
  obtain ⟨v0, fA0, w0⟩ : ∃ bvs, F1' A0 = some (.lst bvs) ∧ Das K F1' bvs (o0'.map Bx.d) := by
    obtain ⟨a, xs, e, x1, x2⟩ := d0'.lst_inv
    cases e
    exact ⟨xs, x1, x2⟩
  obtain ⟨v1, fA1, w1⟩ : ∃ bvs, F1' A1 = some (.lst bvs) ∧ Das K F1' bvs (o1.map Bx.d) := by
    obtain ⟨a, xs, e, x1, x2⟩ := d1.lst_inv
    cases e
    exact ⟨xs, x1, x2⟩
  have lB := vB.lenM
  have l0 := w0.lenM
  have l1 := w1.lenM
  have sq : ∀ {H9 : Hp} {a : Addr} {xs : List V}, Same H1' H9 → F1' a = some (.lst xs) → SqL K H9 a xs := fun e x => SqL.of (e _ _ (gm.fh _ _ x))
  have r0 := Same.refl H1'
  refine ⟨_, rfl, LB', _, rfl, .inl (sq r0 fLB), _, _, rfl, rfl, _, rfl, LO, _, 0, .ref A0, rfl, rfl, sq r0 fLO, rfl, _, rfl, LO, _, 1, .ref A1, rfl, rfl, sq r0 fLO, rfl, A0, A1, _, _, rfl, rfl, gm.fh _ _ fA0, gm.fh _ _ fA1, by rw [sizeLine_eq]; omega, fun p hp => ⟨p, _, rfl, .inl (SqL.of upd_same), _, _, rfl, rfl, ?_⟩⟩
  have gp := gm.new (o := .lst (v0 ++ v1)) hp
  obtain ⟨rm, hrm⟩ : ∃ rm : Int, rm = 6 - (bvs.length : Int) - ((v0 ++ v1).length : Nat) := ⟨_, rfl⟩
  have hrm1 : 1 ≤ rm := by
    rw [hrm, List.length_append]
    omega
  obtain ⟨vm, hvm⟩ : ∃ vm : Int, vm = if rm < mn' then rm else mn' := ⟨_, rfl⟩
  have hcut : ∃ cl, cl ≤ 3 ∧ cutV [.str (nm h 3), .str "lk1", .str "lk2"] none (some vm) = ((lockN h).take cl).map V.str := by
    have hv : vm = 0 ∨ vm = 1 ∨ vm = 2 ∨ vm = 3 := by
      rw [hvm]
      by_cases c9 : rm < mn'
      · rw [if_pos c9]; omega
      · rw [if_neg c9]; omega
    rcases hv with e | e | e | e
    · exact ⟨0, by decide, by rw [e]; rfl⟩
    · exact ⟨1, by decide, by rw [e]; rfl⟩
    · exact ⟨2, by decide, by rw [e]; rfl⟩
    · exact ⟨3, by decide, by rw [e]; rfl⟩
  obtain ⟨cl, hcl, ecut⟩ := hcut
  refine ⟨fun σ' H' => ∃ (F1 : Hp) (LB : Addr) (bs : List Bx) (mn : Int) (LN : Addr) (n : Nat) (LO A0 A1 A2 : Addr) (o0 o1 : List Bx) (rm : Int) (LL : Addr) (cl : Nat), σ' = [some (.int h), some (.ref S), some (.int 4), some (.int 2), some (.ref LB), some (.int mn), some (.ref LN), some (.ref LO), some (.int rm), some (.ref LL), none, none, none, none, none, none, none, none, none, none, none, none] ∧ Gs S F0 H F1 H' ∧ Da K F1 (.ref LB) (.list (bs.map Bx.d)) ∧ BsOk (nm h) bs ∧ 1 ≤ bs.length ∧ bs.length ≤ 2 ∧ NmF F1 LN ((List.range n).map fun k => nm h (k + 6)) ∧ 1 ≤ n ∧ n ≤ 3 ∧ Da K F1 (.ref A0) (.list (o0.map Bx.d)) ∧ BsOk (fun j => nm h (4 + j)) o0 ∧ o0.length ≤ 2 ∧ Da K F1 (.ref A1) (.list (o1.map Bx.d)) ∧ BsOk (fun _ => nm h 9) o1 ∧ o1.length ≤ 1 ∧ F1 A2 = some (.lst []) ∧ F1 LO = some (.lst [.ref A0, .ref A1, .ref A2]) ∧ NmF F1 LL ((lockN h).take cl) ∧ cl ≤ 3, ?_, ?_⟩
  · refine ⟨_, rfl, _, _, rfl, h, 3, rfl, rfl, by decide, fun H3 e3 => ⟨(by show 3 ≤ sizeLine; decide), fun p3 h3 => ?_⟩⟩
    have g3 := (gp.same e3).new (o := .lst [.str (nm h 3), .str "lk1", .str "lk2"]) h3
    refine ⟨_, rfl, _, rfl, _, _, rfl, _, rfl, p3, _, rfl, SqL.of upd_same, fun p4 h4 => ?_⟩
    have g4 := g3.newF (o := .lst (((lockN h).take cl).map V.str)) h4
    have s4 := Same.new (o := .lst (((lockN h).take cl).map V.str)) (g3.fh.free h4)
    rw [← hrm, ← hvm, ecut]
    exact ⟨_, LB', bs', mn', LN', n', LO, A0, A1, A2, o0', o1, rm, p4, cl, by rw [hrm]; rfl, g4, dB'.mono s4, oB', b1', b2', s4 _ _ nN', n1', n3', d0'.mono s4, oo0', ol0', d1.mono s4, oo1, ol1, s4 _ _ fA2, s4 _ _ fLO, upd_same, hcl⟩
  -- made, all
  clear hcl ecut hrm hvm hrm1 gp
  rintro σ' H1 ⟨F1, LB, bs, mn, LN, n, LO, A0, A1, A2, o0, o1, rm, LL, cl, rfl, g1, dB, oB, b1, b2, nN, n1, n3, d0, oo0, ol0, d1, oo1, ol1, fA2, fLO, nL, cl3⟩
  obtain ⟨bvs, fLB, vB⟩ : ∃ bvs, F1 LB = some (.lst bvs) ∧ Das K F1 bvs (bs.map Bx.d) := by
    obtain ⟨a, xs, e, x1, x2⟩ := dB.lst_inv
    cases e
    exact ⟨xs, x1, x2⟩
  obtain ⟨v0, fA0, w0⟩ : ∃ bvs, F1 A0 = some (.lst bvs) ∧ Das K F1 bvs (o0.map Bx.d) := by
    obtain ⟨a, xs, e, x1, x2⟩ := d0.lst_inv
    cases e
    exact ⟨xs, x1, x2⟩
  obtain ⟨v1, fA1, w1⟩ : ∃ bvs, F1 A1 = some (.lst bvs) ∧ Das K F1 bvs (o1.map Bx.d) := by
    obtain ⟨a, xs, e, x1, x2⟩ := d1.lst_inv
    cases e
    exact ⟨xs, x1, x2⟩
  have lB := vB.lenM
  have l0 := w0.lenM
  have l1 := w1.lenM
  refine fun MD hMD => ⟨_, rfl, _, rfl, upd_same, [(.inr "locks", .ref LL), (.inr "hands", .ref LN)], rfl, (by show 2 ≤ 15; decide), ?_⟩
  have hMDH : H MD = none := g1.gr.th _ hMD
  have MDS : MD ≠ S := stt_ne g1.st hMD
  have nMD : F1 MD = none := g1.fh.free hMD
  have g2 := (g1.new (o := .dK []) hMD).set (o := .dK (mergeK [] [((Sum.inr "locks" : Key), V.ref LL), ((Sum.inr "hands" : Key), V.ref LN)])) nMD upd_same hMDH MDS
  obtain ⟨H2, hH2⟩ : ∃ H2, H2 = upd (upd H1 MD (.dK [])) MD (.dK (mergeK [] [((Sum.inr "locks" : Key), V.ref LL), ((Sum.inr "hands" : Key), V.ref LN)])) := ⟨_, rfl⟩
  rw [← hH2] at g2
  have dMD : H2 MD = some (.dK [((Sum.inr "locks" : Key), V.ref LL), ((Sum.inr "hands" : Key), V.ref LN)]) := by
    rw [hH2]
    exact upd_same
  show _
  rw [← hH2]
  refine ⟨_, rfl, LB, rfl, ⟨_, SqL.of (g2.fh _ _ fLB)⟩, fun D hD => lc_list (K := K) (a := LB) (xs := bvs) (LcP H2 bs (fun x => some (.str x.name)) D) (LcP.start hD) (fun i H' _ z => SqL.of (z.same _ _ (g2.fh _ _ fLB))) ?_ ?_⟩
  · intro i v H' hi z
    obtain ⟨x, hx, hv⟩ := vB.getM hi
    obtain ⟨t1, rfl, k1⟩ := Bx.at_ hv
    exact ⟨rfl, _, rfl, t1, _, 0, _, rfl, rfl, z.same.tup (g2.fh.tup k1), at0, z.put (Same.refl _) hx rfl (by omega)⟩
  intro H3 z
  rw [lB] at z
  obtain ⟨z1, e3, z3⟩ := z.end_
  have hnm : ∀ (bs : List Bx), bs.map (fun x => V.str x.name) = (bn bs).map V.str := fun bs => by
    unfold bn
    rw [List.map_map]
    rfl
  rw [fm_map, hnm] at z3
  have g3 := (g2.same e3).frz (g2.fh.free hD) z3 (g2.gr.th _ hD) (stt_ne g2.st hD)
  have s3 := Same.new (o := .lst ((bn bs).map V.str)) (g2.fh.free hD)
  have dMD3 := e3 _ _ dMD
  refine ⟨fun σ' H' => ∃ (F1 : Hp) (LB : Addr) (bs : List Bx) (mn : Int) (LN : Addr) (n : Nat) (LO A0 A1 A2 : Addr) (o0 o1 : List Bx) (rm : Int) (LL : Addr) (cl : Nat) (MD LC LA : Addr), σ' = [some (.int h), some (.ref S), some (.int 4), some (.int 2), some (.ref LB), some (.int mn), some (.ref LN), some (.ref LO), some (.int rm), some (.ref LL), some (.ref MD), some (.ref LC), none, none, none, none, none, none, none, none, none, none] ∧ Gs S F0 H F1 H' ∧ Da K F1 (.ref LB) (.list (bs.map Bx.d)) ∧ BsOk (nm h) bs ∧ 1 ≤ bs.length ∧ bs.length ≤ 2 ∧ NmF F1 LN ((List.range n).map fun k => nm h (k + 6)) ∧ 1 ≤ n ∧ n ≤ 3 ∧ Da K F1 (.ref A0) (.list (o0.map Bx.d)) ∧ BsOk (fun j => nm h (4 + j)) o0 ∧ o0.length ≤ 2 ∧ Da K F1 (.ref A1) (.list (o1.map Bx.d)) ∧ BsOk (fun _ => nm h 9) o1 ∧ o1.length ≤ 1 ∧ F1 A2 = some (.lst []) ∧ F1 LO = some (.lst [.ref A0, .ref A1, .ref A2]) ∧ NmF F1 LL ((lockN h).take cl) ∧ cl ≤ 3 ∧ F1 MD = some (.dK [(.inr "locks", .ref LL), (.inr "hands", .ref LN), (.inr "all", .ref LA)]) ∧ NmF F1 LC (bn bs) ∧ NmF F1 LA (bn bs ++ (lockN h).take cl ++ (bn o0 ++ (if 1 < n then bn o1 else []))), ?_, ?_⟩
  · have lbn : (bn bs).length = bs.length := List.length_map _
    have f3 : ∀ {a : Addr} {o : HO}, F1 a = some o → H3 a = some o := fun e => e3 _ _ (g2.fh _ _ e)
    refine ⟨_, rfl, _, rfl, D, LL, _, _, rfl, rfl, z3, f3 nL, ?_, fun q1 h1 => ?_⟩
    · rw [List.length_map, List.length_map, lbn, List.length_take, sizeLine_eq]
      omega
    have e4 : Same H3 (upd H3 q1 (.lst ((bn bs).map V.str ++ ((lockN h).take cl).map V.str))) := Same.new h1
    have sq4 : ∀ {a : Addr} {xs : List V} {H9 : Hp}, Same H3 H9 → F1 a = some (.lst xs) → SqL K H9 a xs := fun e x => SqL.of (e _ _ (f3 x))
    have dg : DGet (upd H3 q1 (.lst ((bn bs).map V.str ++ ((lockN h).take cl).map V.str))) MD (.str "hands") (some (.ref LN)) := by
      have z := DGet.k (k := .inr "hands") (e4 _ _ dMD3)
      exact z
    have nn : ((List.range n).map (fun k => nm h (k + 6))).length = n := by rw [List.length_map, List.length_range]
    refine ⟨_, rfl, LO, _, 0, .ref A0, rfl, rfl, sq4 e4 fLO, rfl, _, rfl, LO, _, 1, .ref A1, rfl, rfl, sq4 e4 fLO, rfl, _, rfl, MD, _, rfl, dg, LN, _, rfl, .inl (sq4 e4 nN), _, _, rfl, rfl, .inr ⟨_, rfl, ?_⟩⟩
    rw [List.length_map, nn]
    have hk : ∀ (b : Bool), -(2 ^ 63) ≤ (if b = true then (1 : Int) else 0) ∧ (if b = true then (1 : Int) else 0) < 2 ^ 63 ∧ v1.length * (if b = true then (1 : Int) else 0).toNat ≤ sizeLine := fun b => by
      cases b with
      | true => exact ⟨by decide, by decide, by rw [sizeLine_eq]; show v1.length * 1 ≤ _; omega⟩
      | false => exact ⟨by decide, by decide, Nat.zero_le _⟩
    refine ⟨A1, _, v1, rfl, rfl, e4 _ _ (f3 fA1), (hk _).1, (hk _).2.1, (hk _).2.2, fun q2 h2 => ?_⟩
    obtain ⟨o1', ho1⟩ : ∃ o1', o1' = if 1 < n then o1 else [] := ⟨_, rfl⟩
    obtain ⟨v1', hv1⟩ : ∃ v1', v1' = (List.replicate (if decide ((1 : Int) < (n : Int)) = true then (1 : Int) else 0).toNat v1).flatten := ⟨_, rfl⟩
    have w1' : Das K F1 v1' (o1'.map Bx.d) ∧ v1'.length ≤ 1 := by
      rw [hv1, ho1]
      by_cases c : 1 < n
      · rw [if_pos c, if_pos (decide_eq_true (by omega))]
        have e : (List.replicate (1 : Int).toNat v1).flatten = v1 := by
          show (List.replicate 1 v1).flatten = v1
          simp
        rw [e]
        exact ⟨w1, by omega⟩
      · rw [if_neg c, if_neg (fun z => c (by have := of_decide_eq_true z; omega))]
        exact ⟨.nil, Nat.zero_le _⟩
    rw [← hv1]
    have e5 := e4.trans (Same.new (o := .lst v1') h2)
    refine ⟨A0, q2, v0, v1', rfl, rfl, e5 _ _ (f3 fA0), upd_same, by rw [sizeLine_eq]; have := w1'.2; omega, fun q3 h3 => ?_⟩
    have e6 := e5.trans (Same.new (o := .lst (v0 ++ v1')) h3)
    obtain ⟨H6, hH6⟩ : ∃ H6, H6 = upd (upd (upd H3 q1 (.lst ((bn bs).map V.str ++ ((lockN h).take cl).map V.str))) q2 (.lst v1')) q3 (.lst (v0 ++ v1')) := ⟨_, rfl⟩
    have k3 : H6 q3 = some (.lst (v0 ++ v1')) := by rw [hH6]; exact upd_same
    have k1 : H6 q1 = some (.lst ((bn bs).map V.str ++ ((lockN h).take cl).map V.str)) := by
      rw [hH6]
      exact (Same.new h3) _ _ ((Same.new h2) _ _ upd_same)
    rw [← hH6] at e6 ⊢
    have w01 : Das K F1 (v0 ++ v1') ((o0 ++ o1').map Bx.d) := by
      rw [List.map_append]
      exact w0.app w1'.1
    refine ⟨q3, rfl, ⟨_, SqL.of k3⟩, fun D2 hD2 => lc_list (K := K) (a := q3) (xs := v0 ++ v1') (LcP H6 (o0 ++ o1') (fun x => some (.str x.name)) D2) (LcP.start hD2) (fun i H' _ z => SqL.of (z.same _ _ k3)) ?_ ?_⟩
    · intro i v H' hi z
      obtain ⟨x, hx, hv⟩ := w01.getM hi
      obtain ⟨t1, rfl, kk⟩ := Bx.at_ hv
      have hl01 : (o0 ++ o1').length ≤ 10 := by
        have e := w01.lenM
        rw [List.length_append] at e
        have := w1'.2
        omega
      exact ⟨rfl, _, rfl, t1, _, 0, _, rfl, rfl, z.same.tup (e6.tup (e3.tup (g2.fh.tup kk))), at0, z.put (Same.refl _) hx rfl (by omega)⟩
    intro H7 z
    rw [w01.lenM] at z
    obtain ⟨z1', e7, z7⟩ := z.end_
    rw [fm_map, hnm] at z7
    have hl01 : (bn (o0 ++ o1')).length ≤ 10 := by
      have e := w01.lenM
      rw [List.length_append] at e
      have := w1'.2
      unfold bn
      rw [List.length_map]
      omega
    refine ⟨q1, D2, _, _, rfl, rfl, e7 _ _ k1, z7, ?_, fun q4 h4 => ?_⟩
    · rw [List.length_append, List.length_map, List.length_map, List.length_map, lbn, List.length_take, sizeLine_eq]
      omega
    have e8 := (e6.trans e7)
    have g8 := (g3.same e8).newF (o := .lst ((bn bs).map V.str ++ ((lockN h).take cl).map V.str ++ (bn (o0 ++ o1')).map V.str)) h4
    have s8 := Same.new (o := .lst ((bn bs).map V.str ++ ((lockN h).take cl).map V.str ++ (bn (o0 ++ o1')).map V.str)) ((g3.same e8).fh.free h4)
    have dMD8 := Same.new (o := .lst ((bn bs).map V.str ++ ((lockN h).take cl).map V.str ++ (bn (o0 ++ o1')).map V.str)) h4 _ _ (e8 _ _ dMD3)
    refine ⟨_, rfl, MD, _, rfl, DPut.k (k := .inr "all") dMD8 (by show 2 < sizeLine; decide), ?_⟩
    have nMD3 : upd F1 D (.lst ((bn bs).map V.str)) MD = none := by
      rw [upd_ne (ne_of_none dMD hD)]
      exact nMD
    have nMD8 : upd (upd F1 D (.lst ((bn bs).map V.str))) q4 (.lst ((bn bs).map V.str ++ ((lockN h).take cl).map V.str ++ (bn (o0 ++ o1')).map V.str)) MD = none := by
      rw [upd_ne (ne_of_none (e8 _ _ dMD3) h4)]
      exact nMD3
    have g9 := (g8.set (o := .dK [((Sum.inr "locks" : Key), V.ref LL), ((Sum.inr "hands" : Key), V.ref LN), ((Sum.inr "all" : Key), V.ref q4)]) nMD8 dMD8 hMDH MDS).frz (p := MD) nMD8 upd_same hMDH MDS
    have s9 := (s3.trans s8).trans (Same.new (o := .dK [((Sum.inr "locks" : Key), V.ref LL), ((Sum.inr "hands" : Key), V.ref LN), ((Sum.inr "all" : Key), V.ref q4)]) nMD8)
    have s9' := s8.trans (Same.new (o := .dK [((Sum.inr "locks" : Key), V.ref LL), ((Sum.inr "hands" : Key), V.ref LN), ((Sum.inr "all" : Key), V.ref q4)]) nMD8)
    refine ⟨_, LB, bs, mn, LN, n, LO, A0, A1, A2, o0, o1, rm, LL, cl, MD, D, q4, rfl, g9, dB.mono s9, oB, b1, b2, s9 _ _ nN, n1, n3, d0.mono s9, oo0, ol0, d1.mono s9, oo1, ol1, s9 _ _ fA2, s9 _ _ fLO, s9 _ _ nL, cl3, upd_same, s9' _ _ upd_same, ?_⟩
    have eq4 : bn o0 ++ (if 1 < n then bn o1 else []) = bn (o0 ++ o1') := by
      rw [ho1]
      unfold bn
      by_cases c : 1 < n
      · rw [if_pos c, if_pos c, List.map_append]
      · rw [if_neg c, if_neg c, List.append_nil, List.append_nil]
    unfold NmF
    rw [eq4, List.map_append, List.map_append]
    exact (Same.new nMD8) _ _ upd_same
  -- the hands
  clear z1 e3 z3 s3 dMD3 g3 dMD hH2 g2 w0 fA0 w1 fA1 fLB vB
  rintro σ' H1 ⟨F1, LB, bs, mn, LN, n, LO, A0, A1, A2, o0, o1, rm, LL, cl, MD, LC, LA, rfl, g1, dB, oB, b1, b2, nN, n1, n3, d0, oo0, ol0, d1, oo1, ol1, fA2, fLO, nL, cl3, fMD, nLC, nLA⟩
  refine ⟨Nat.zero_le _, fun HL hHL => ?_⟩
  have hHLH : H HL = none := g1.gr.th _ hHL
  have HLS : HL ≠ S := stt_ne g1.st hHL
  have g2 := g1.new (o := .lst []) hHL
  have nn : ((List.range n).map (fun k => V.str (nm h (k + 6)))).length = n := by rw [List.length_map, List.length_range]
  have nn' : ((List.range n).map (fun k => nm h (k + 6))).map V.str = (List.range n).map fun k => V.str (nm h (k + 6)) := by rw [List.map_map]; rfl
  have dgh : ∀ {H9 : Hp}, Same F1 H9 → DGet H9 MD (.str "hands") (some (.ref LN)) := fun e => by
    have z := DGet.k (k := .inr "hands") (e _ _ fMD)
    exact z
  have fLN : F1 LN = some (.lst ((List.range n).map fun k => V.str (nm h (k + 6)))) := by rw [← nn']; exact nN
  refine ⟨_, rfl, MD, _, rfl, dgh g2.fh, LN, _, rfl, .inl (SqL.of (g2.fh _ _ fLN)), ?_⟩
  rw [nn]
  refine ⟨(n : Int), rfl, by omega, by omega, ?_⟩
  have owA : ∀ k : Nat, k < 3 → ∃ a, atI [V.ref A0, V.ref A1, V.ref A2] (0 + (k : Int)) = some (.ref a) ∧ Da K F1 (.ref a) (.list ((ow o0 o1 k).map Bx.d)) := fun k hk => by
    match k, hk with
    | 0, _ => exact ⟨A0, rfl, d0⟩
    | 1, _ => exact ⟨A1, rfl, d1⟩
    | 2, _ => exact ⟨A2, rfl, .lst fA2 .nil⟩
  have owl : ∀ k : Nat, (ow o0 o1 k).length ≤ 2 := fun k => by
    match k with
    | 0 => exact ol0
    | 1 => show o1.length ≤ 2; omega
    | _ + 2 => exact Nat.zero_le _
  have hnm : ∀ (bs : List Bx), bs.map (fun x => V.str x.name) = (bn bs).map V.str := fun bs => by
    unfold bn
    rw [List.map_map]
    rfl
  have lbn : ∀ bs : List Bx, (bn bs).length = bs.length := fun bs => List.length_map _
  have nmok : ∀ j : Nat, j < 10 → PyData.strOk (nm h j) = true := fun j hj => by
    unfold nm
    rw [List.getD_eq_getElem?_getD, List.getElem?_eq_getElem (by rw [nm_len]; exact hj)]
    exact nm_ok h _ (List.getElem_mem _)
  have okB : ∀ x ∈ bn bs, PyData.strOk x = true := fun x hx => by
    rw [oB.1] at hx
    obtain ⟨j, hj, rfl⟩ := List.mem_map.mp hx
    have := List.mem_range.mp hj
    exact nmok j (by omega)
  have ok0 : ∀ x ∈ bn o0, PyData.strOk x = true := fun x hx => by
    rw [oo0.1] at hx
    obtain ⟨j, hj, rfl⟩ := List.mem_map.mp hx
    have := List.mem_range.mp hj
    exact nmok (4 + j) (by omega)
  have ok1 : ∀ x ∈ bn o1, PyData.strOk x = true := fun x hx => by
    rw [oo1.1] at hx
    obtain ⟨j, hj, rfl⟩ := List.mem_map.mp hx
    exact nmok 9 (by decide)
  have okO : ∀ k : Nat, ∀ x ∈ bn (ow o0 o1 k), PyData.strOk x = true := fun k => by
    match k with
    | 0 => exact ok0
    | 1 => exact ok1
    | _ + 2 => exact fun _ h => nomatch h
  have okL : ∀ x ∈ (lockN h).take cl, PyData.strOk x = true := fun x hx => by
    have z := List.mem_of_mem_take hx
    unfold lockN at z
    simp only [List.mem_cons, List.not_mem_nil, or_false] at z
    rcases z with e | e | e
    · rw [e]; exact nmok 3 (by decide)
    · rw [e]; decide +kernel
    · rw [e]; decide +kernel
  have enG : ∀ k : Nat, k < n → EnG (EoT h bs o0 o1 cl n (ow o0 o1 k)) := fun k hk => {
    m0 := by show 1 ≤ (bn bs ++ bn (ow o0 o1 k)).length; rw [List.length_append, lbn]; omega
    m1 := by show (bn bs ++ bn (ow o0 o1 k)).length ≤ 6; have := owl k; rw [List.length_append, lbn, lbn]; omega
    l1 := by show ((lockN h).take cl).length ≤ 4; rw [List.length_take]; omega
    a1 := by
      show (bn bs ++ (lockN h).take cl ++ (bn o0 ++ (if 1 < n then bn o1 else []))).length ≤ 10
      have : (if 1 < n then bn o1 else []).length ≤ 1 := by
        by_cases c : 1 < n
        · rw [if_pos c, lbn]; exact ol1
        · rw [if_neg c]; exact Nat.zero_le _
      rw [List.length_append, List.length_append, List.length_append, lbn, lbn, List.length_take]
      omega
    h0 := by show 1 ≤ ((List.range n).map fun k => nm h (k + 6)).length; rw [List.length_map, List.length_range]; exact n1
    h1 := by show ((List.range n).map fun k => nm h (k + 6)).length ≤ 10; rw [List.length_map, List.length_range]; omega
    nd := by
      show (bn bs ++ bn (ow o0 o1 k)).Nodup
      have z := names_nd (hs := (List.range n).map fun k => ⟨nm h (k + 6), ow o0 o1 k, []⟩) oB b2 cl3 n3 oo0 ol0 oo1 ol1 (by rw [List.map_map]; rfl)
      unfold Tree.names at z
      have z2 := List.nodup_append.mp z
      have sub : List.Sublist (bn (ow o0 o1 k)) (nmL ((List.range n).map fun k => ⟨nm h (k + 6), ow o0 o1 k, []⟩)) := by
        unfold nmL
        rw [List.map_map]
        refine List.Sublist.trans (List.sublist_cons_self (nm h (k + 6)) (bn (ow o0 o1 k))) (List.sublist_flatten_of_mem ?_)
        exact List.mem_map.mpr ⟨k, List.mem_range.mpr hk, rfl⟩
      exact List.nodup_append.mpr ⟨(List.nodup_append.mp z2.1).1, z2.2.1.sublist sub, fun x hx y hy => z2.2.2 x (List.mem_append_left _ hx) y (sub.subset hy)⟩
    sm := fun x hx => by
      rcases List.mem_append.mp hx with z | z
      · exact okB x z
      · exact okO k x z
    sl := okL
    sa := fun x hx => by
      rcases List.mem_append.mp hx with z | z
      · rcases List.mem_append.mp z with z | z
        · exact okB x z
        · exact okL x z
      · rcases List.mem_append.mp z with z | z
        · exact ok0 x z
        · by_cases c : 1 < n
          · rw [if_pos c] at z; exact ok1 x z
          · rw [if_neg c] at z; exact nomatch z
    sh := fun x hx => by
      obtain ⟨j, hj, rfl⟩ := List.mem_map.mp hx
      have := List.mem_range.mp hj
      exact nmok (j + 6) (by omega) }
  refine for_range (lo := 0) (n := n) (fun i σ H' => ∃ (F' : Hp) (acc : List V) (hs : List Hnd) (P0 S0 : Int) (x1 x2 x3 x4 x5 : Option V), σ = [some (.int h), some (.ref S), some (.int 4), some (.int 2), some (.ref LB), some (.int mn), some (.ref LN), some (.ref LO), some (.int rm), some (.ref LL), some (.ref MD), some (.ref LC), some (.ref HL), some (.int P0), some (.int S0), x1, x2, x3, x4, x5, none, none] ∧ Gs S F0 H F' H' ∧ Same F1 F' ∧ F' HL = none ∧ H' HL = some (.lst acc) ∧ Das K F' acc (hs.map Hnd.d) ∧
      hs.map (fun x => (x.name, x.owns)) = ((List.range n).map fun k => (nm h (k + 6), ow o0 o1 k)).take i ∧ (∀ x ∈ hs, ∃ rs : List Row, x.rows = [Row.label "lab"] ++ rs ++ [Row.label "fin"] ∧ rs.length ≤ 10 ∧ ∀ r ∈ rs, Row.Ok (EoT h bs o0 o1 cl n x.owns) 3 r) ∧
      P0 = (hs.map fun h => 2 + (cntR h.rows).1).sum ∧ S0 = (hs.map fun h => (cntR h.rows).2).sum ∧ P0 ≤ 24 - 2 * ((n : Int) - i) ∧ S0 ≤ 40 - ((n : Int) - i))
    ⟨F1, [], [], 0, 0, none, none, none, none, none, rfl, g2, Same.refl _, g1.fh.free hHL, upd_same, .nil, by rw [List.take_zero]; rfl, (fun _ h => nomatch h), rfl, rfl, by omega, by omega⟩ ?_ ?_
  · rintro i σ H' hi ⟨F', acc, hs, P0, S0, x1, x2, x3, x4, x5, rfl, g, sF, nHL, hHL', da, hhs, hrs, hP, hS0, bP, bS⟩
    obtain ⟨Ak, atk, dAk⟩ := owA i (by omega)
    obtain ⟨ovs, fAk, wAk⟩ : ∃ ovs, F1 Ak = some (.lst ovs) ∧ Das K F1 ovs ((ow o0 o1 i).map Bx.d) := by
      obtain ⟨a, xs, e, y1, y2⟩ := dAk.lst_inv
      cases e
      exact ⟨xs, y1, y2⟩
    have lAk := wAk.lenM
    have hol := owl i
    have f1 : ∀ {a : Addr} {o : HO}, F1 a = some o → H' a = some o := fun e => g.fh _ _ (sF _ _ e)
    refine ⟨_, rfl, _, rfl, _, rfl, LO, _, _, _, rfl, rfl, SqL.of (f1 fLO), atk, Ak, rfl, ⟨_, SqL.of (f1 fAk)⟩, fun D hD => lc_list (K := K) (a := Ak) (xs := ovs) (LcP H' (ow o0 o1 i) (fun x => some (.str x.name)) D) (LcP.start hD) (fun i H' _ z => SqL.of (z.same _ _ (f1 fAk))) ?_ ?_⟩
    · intro j v H3 hj z
      obtain ⟨x, hx, hv⟩ := wAk.getM hj
      obtain ⟨t1, rfl, k1⟩ := Bx.at_ hv
      exact ⟨rfl, _, rfl, t1, _, 0, _, rfl, rfl, z.same.tup (g.fh.tup (sF.tup k1)), at0, z.put (Same.refl _) hx rfl (by omega)⟩
    intro H3 z
    rw [lAk] at z
    obtain ⟨z1, e3, z3⟩ := z.end_
    rw [fm_map, hnm] at z3
    refine ⟨LC, D, _, _, rfl, rfl, e3 _ _ (f1 nLC), z3, by rw [List.length_map, List.length_map, lbn, lbn, sizeLine_eq]; omega, fun q1 h1 => ?_⟩
    have g4 := (g.same e3).newF (o := .lst ((bn bs).map V.str ++ (bn (ow o0 o1 i)).map V.str)) h1
    have s4 := Same.new (o := .lst ((bn bs).map V.str ++ (bn (ow o0 o1 i)).map V.str)) ((g.same e3).fh.free h1)
    have sF4 := sF.trans s4
    have nHL4 : HL ≠ q1 := ne_of_none (e3 _ _ hHL') h1
    have nF4 : upd F' q1 (.lst ((bn bs).map V.str ++ (bn (ow o0 o1 i)).map V.str)) HL = none := by rw [upd_ne nHL4]; exact nHL
    have hHL4 := upd_at (u := .lst ((bn bs).map V.str ++ (bn (ow o0 o1 i)).map V.str)) (e3 _ _ hHL') nHL4
    have mA : MdAt (upd F' q1 (.lst ((bn bs).map V.str ++ (bn (ow o0 o1 i)).map V.str))) (.ref MD) (.ref q1) (EoT h bs o0 o1 cl n (ow o0 o1 i)) MD LL LN LA q1 := ⟨rfl, rfl, sF4 _ _ fMD, sF4 _ _ nL, sF4 _ _ nN, sF4 _ _ nLA, by rw [upd_same]; show _ = some (HO.lst ((bn bs ++ bn (ow o0 o1 i)).map V.str)); rw [List.map_append], enG i hi⟩
    refine ⟨_, rfl, _, rfl, _, rfl, _, rfl, _, _, _, _, _, rfl, _, S, _, MD, LL, LN, LA, q1, 3, 3, rfl, g4.sub, mA, by decide, by decide, rfl, rfl, by decide, fun F5 H5 v rs g5' d5 l5 o5 => ?_⟩
    have g5 := g4.trans g5'
    have sF5 := sF4.trans g5'.ff
    have nF5 : F5 HL = none := g5'.gr.non hHL4 nF4
    have hHL5 : H5 HL = some (.lst acc) := g5'.kpD hHL4 HLS
    have rok : RowsOk (EoT h bs o0 o1 cl n (ow o0 o1 i)) 3 rs := ⟨by omega, fun x hx => o5 x (mem_stm hx).1⟩
    refine ⟨_, rfl, _, rfl, rs, _, d5.mono g5.fh, rok, by decide, fun p6 H6 h6 e6 hp6 => ?_⟩
    have f6 : ∀ {a : Addr} {o : HO}, F1 a = some o → H6 a = some o := fun e => e6 _ _ (g5.fh _ _ (sF5 _ _ e))
    refine ⟨_, rfl, MD, _, rfl, dgh (fun a o e => f6 e), LN, _, rfl, .inl (SqL.of (f6 fLN)), _, rfl, _, _, rfl, rfl, _, _, rfl, rfl, ?_⟩
    obtain ⟨lf, hlf⟩ : ∃ lf : Int, lf = (((List.range n).map (fun k => V.str (nm h (k + 6)))).length : Nat) - (0 + (i : Int)) - 1 := ⟨_, rfl⟩
    have hlf2 : lf = (n : Int) - i - 1 := by rw [hlf, nn]; omega
    refine ⟨fun σ' H7 => ∃ (F7 : Hp) (ra p7 : Addr) (rs7 : List Row), σ' = [some (.int h), some (.ref S), some (.int 4), some (.int 2), some (.ref LB), some (.int mn), some (.ref LN), some (.ref LO), some (.int rm), some (.ref LL), some (.ref MD), some (.ref LC), some (.ref HL), some (.int P0), some (.int S0), some (.int (0 + (i : Int))), some (.ref q1), some (.ref ra), some (.ref p7), some (.int lf), none, none] ∧ Gs S F0 H F7 H7 ∧ Same F5 F7 ∧ F7 HL = none ∧ H7 HL = some (.lst acc) ∧ Da K F7 (.ref ra) (rd rs7) ∧ H7 p7 = some (pr (cntR rs7)) ∧ rs7.length ≤ 10 ∧ (∀ r ∈ rs7, Row.Ok (EoT h bs o0 o1 cl n (ow o0 o1 i)) 3 r) ∧ P0 + 2 + (cntR rs7).1 ≤ 24 - 2 * lf ∧ S0 + (cntR rs7).2 ≤ 40 - lf, ?_, ?_⟩
    · have hlf3 : ∀ {X : Prop}, X → X := fun x => x
      have c0 : cntR [] = (0, 1) := by
        unfold cntR cntX
        rw [if_pos (show stm ([] : List Row) = [] from rfl)]
      have g6 := g5.same e6
      have hHL6 : H6 HL = some (.lst acc) := e6 _ _ hHL5
      have reset : (0 ≤ sizeLine ∧ ∀ r1, H6 r1 = none → (2 ≤ sizeLine ∧ ∀ p7, upd H6 r1 (.lst []) p7 = none → ∃ (F7 : Hp) (ra p7' : Addr) (rs7 : List Row), ([some (.int h), some (.ref S), some (.int 4), some (.int 2), some (.ref LB), some (.int mn), some (.ref LN), some (.ref LO), some (.int rm), some (.ref LL), some (.ref MD), some (.ref LC), some (.ref HL), some (.int P0), some (.int S0), some (.int (0 + (i : Int))), some (.ref q1), some (.ref r1), some (.ref p7), some (.int lf), none, none] : List (Option V)) = [some (.int h), some (.ref S), some (.int 4), some (.int 2), some (.ref LB), some (.int mn), some (.ref LN), some (.ref LO), some (.int rm), some (.ref LL), some (.ref MD), some (.ref LC), some (.ref HL), some (.int P0), some (.int S0), some (.int (0 + (i : Int))), some (.ref q1), some (.ref ra), some (.ref p7'), some (.int lf), none, none] ∧ Gs S F0 H F7 (upd (upd H6 r1 (.lst [])) p7 (.tup [.int 0, .int 1])) ∧ Same F5 F7 ∧ F7 HL = none ∧ (upd (upd H6 r1 (.lst [])) p7 (.tup [.int 0, .int 1])) HL = some (.lst acc) ∧ Da K F7 (.ref ra) (rd rs7) ∧ (upd (upd H6 r1 (.lst [])) p7 (.tup [.int 0, .int 1])) p7' = some (pr (cntR rs7)) ∧ rs7.length ≤ 10 ∧ (∀ r ∈ rs7, Row.Ok (EoT h bs o0 o1 cl n (ow o0 o1 i)) 3 r) ∧ P0 + 2 + (cntR rs7).1 ≤ 24 - 2 * lf ∧ S0 + (cntR rs7).2 ≤ 40 - lf)) := ⟨Nat.zero_le _, fun r1 hr1 => ⟨by decide, fun p7 hp7 => by
        have g7 := g6.newF (o := .lst []) hr1
        have nr : HL ≠ r1 := ne_of_none hHL6 hr1
        have np : HL ≠ p7 := ne_of_none (upd_at (u := .lst []) hHL6 nr) hp7
        refine ⟨_, r1, p7, [], rfl, g7.new hp7, Same.new (g6.fh.free hr1), by rw [upd_ne nr]; exact nF5, upd_at (upd_at hHL6 nr) np, .lst upd_same .nil, by rw [upd_same, c0]; rfl, Nat.zero_le _, fun _ h => (by cases h), ?_, ?_⟩
        · rw [c0]
          show P0 + 2 + 0 ≤ 24 - 2 * lf
          omega
        · rw [c0]
          show S0 + 1 ≤ 40 - lf
          omega⟩⟩
      refine ⟨_, rfl, _, _, rfl, rfl, _, rfl, p6, _, 0, _, rfl, rfl, SqT.of hp6, at0, _, _, rfl, rfl, _, rfl, _, _, rfl, rfl, .inl ⟨by decide, by decide⟩, _, _, rfl, rfl, _, _, rfl, rfl, _, rfl, ?_⟩
      rw [hlf] at reset
      by_cases c1 : 24 - 2 * lf < P0 + 2 + (cntR rs).1
      · refine ite_b (decide_eq_true (by rw [hlf] at c1; exact c1)) ?_
        rw [hlf]
        exact reset
      refine ite_nb (decide_eq_false (by rw [hlf] at c1; exact c1)) ?_
      refine ⟨_, rfl, _, rfl, p6, _, 1, _, rfl, rfl, SqT.of hp6, at1, _, _, rfl, rfl, _, rfl, _, _, rfl, rfl, _, _, rfl, rfl, _, rfl, ?_⟩
      by_cases c2 : 40 - lf < S0 + (cntR rs).2
      · refine ite_b (decide_eq_true (by rw [hlf] at c2; exact c2)) ?_
        rw [hlf]
        exact reset
      refine ite_nb (decide_eq_false (by rw [hlf] at c2; exact c2)) ?_
      obtain ⟨ra, rvs, rfl, hra, hrv⟩ := d5.lst_inv
      exact ⟨F5, ra, p6, rs, by rw [hlf]; rfl, g6, Same.refl _, nF5, hHL6, d5, hp6, by omega, o5, by omega, by omega⟩
    · rintro σ' H7 ⟨F7, ra, p7, rs7, rfl, g7, sF7', nF7, hHL7, d7, hp7, l7, o7, bp, bs7⟩
      have sF7 := sF5.trans sF7'
      obtain ⟨a, rvs, e, fra, wra⟩ := d7.lst_inv
      cases e
      have lra := wra.lenM
      have f7 : ∀ {a : Addr} {o : HO}, F1 a = some o → H7 a = some o := fun e => g7.fh _ _ (sF7 _ _ e)
      have atn : atI ((List.range n).map fun k => V.str (nm h (k + 6))) (0 + (i : Int)) = some (.str (nm h (i + 6))) := by
        rw [Int.zero_add]
        refine atI_nat ?_
        rw [List.getElem?_map, List.getElem?_range hi]
        rfl
      refine ⟨_, rfl, _, _, rfl, rfl, _, rfl, p7, _, 0, _, rfl, rfl, SqT.of hp7, at0, _, _, rfl, rfl, ?_⟩
      refine ⟨_, rfl, _, rfl, p7, _, 1, _, rfl, rfl, SqT.of hp7, at1, _, _, rfl, rfl, ?_⟩
      refine ⟨_, rfl, .inl ⟨rfl, acc, SqL.of hHL7⟩, _, rfl, MD, _, rfl, dgh (fun a o e => f7 e), _, rfl, LN, _, _, _, rfl, rfl, SqL.of (f7 fLN), atn, _, rfl, _, rfl, LO, _, _, _, rfl, rfl, SqL.of (f7 fLO), atk, (by show 2 ≤ sizeLine; decide), fun t1 k1 => ⟨(by show 1 ≤ sizeLine; decide), fun l1 kl1 => ?_⟩⟩
      have ga := g7.newF (o := .tup [.str "label", .str "lab"]) k1
      have sa := Same.new (o := .tup [.str "label", .str "lab"]) (g7.fh.free k1)
      have gb := ga.new (o := .lst [.ref t1]) kl1
      have ea : Same H7 _ := (Same.new (o := .tup [.str "label", .str "lab"]) k1).trans (Same.new (o := .lst [.ref t1]) kl1)
      refine ⟨_, rfl, l1, ra, _, rvs, rfl, rfl, upd_same, ea _ _ (g7.fh _ _ fra), by rw [lra, sizeLine_eq]; show 1 + rs7.length ≤ _; omega, fun l2 kl2 => ⟨(by show 2 ≤ sizeLine; decide), fun t3 k3 => ⟨(by show 1 ≤ sizeLine; decide), fun l4 k4 => ?_⟩⟩⟩
      have gc := gb.new (o := .lst ([.ref t1] ++ rvs)) kl2
      have gd := gc.newF (o := .tup [.str "label", .str "fin"]) k3
      have sd := Same.new (o := .tup [.str "label", .str "fin"]) (gc.fh.free k3)
      have ge := gd.new (o := .lst [.ref t3]) k4
      refine ⟨l2, l4, _, _, rfl, rfl, Same.new k4 _ _ (Same.new k3 _ _ upd_same), upd_same, by rw [List.length_append, lra, sizeLine_eq]; show 1 + rs7.length + 1 ≤ _; omega, fun l5 k5 => ⟨(by show 3 ≤ sizeLine; decide), fun t6 k6 => ?_⟩⟩
      have gf := ge.newF (o := .lst ([.ref t1] ++ rvs ++ [.ref t3])) k5
      have sf := Same.new (o := .lst ([.ref t1] ++ rvs ++ [.ref t3])) (ge.fh.free k5)
      have gg := gf.newF (o := .tup [.str (nm h (i + 6)), .ref Ak, .ref l5]) k6
      have sg := Same.new (o := .tup [.str (nm h (i + 6)), .ref Ak, .ref l5]) (gf.fh.free k6)
      have eg := (((((ea.trans (Same.new (o := .lst ([.ref t1] ++ rvs)) kl2)).trans (Same.new (o := .tup [.str "label", .str "fin"]) k3)).trans (Same.new (o := .lst [.ref t3]) k4)).trans (Same.new (o := .lst ([.ref t1] ++ rvs ++ [.ref t3])) k5)).trans (Same.new (o := .tup [.str (nm h (i + 6)), .ref Ak, .ref l5]) k6))
      have hHLg := eg _ _ hHL7
      have sall := ((sa.trans sd).trans sf).trans sg
      have nHg : upd (upd (upd (upd F7 t1 (.tup [.str "label", .str "lab"])) t3 (.tup [.str "label", .str "fin"])) l5 (.lst ([.ref t1] ++ rvs ++ [.ref t3]))) t6 (.tup [.str (nm h (i + 6)), .ref Ak, .ref l5]) HL = none := by
        have m1 := ne_of_none hHL7 k1
        have m3 := ne_of_none ((ea.trans (Same.new (o := .lst ([.ref t1] ++ rvs)) kl2)) _ _ hHL7) k3
        have m5 := ne_of_none ((((ea.trans (Same.new (o := .lst ([.ref t1] ++ rvs)) kl2)).trans (Same.new (o := .tup [.str "label", .str "fin"]) k3)).trans (Same.new (o := .lst [.ref t3]) k4)) _ _ hHL7) k5
        have m6 := ne_of_none (((((ea.trans (Same.new (o := .lst ([.ref t1] ++ rvs)) kl2)).trans (Same.new (o := .tup [.str "label", .str "fin"]) k3)).trans (Same.new (o := .lst [.ref t3]) k4)).trans (Same.new (o := .lst ([.ref t1] ++ rvs ++ [.ref t3])) k5)) _ _ hHL7) k6
        rw [upd_ne m6, upd_ne m5, upd_ne m3, upd_ne m1]
        exact nF7
      have lacc := da.lenM
      have lhs : hs.length ≤ 3 := by
        have e := congrArg List.length hhs
        rw [List.length_map, List.length_take] at e
        omega
      refine ⟨HL, acc, _, rfl, rfl, hHLg, by rw [lacc, sizeLine_eq]; omega, ?_⟩
      have hcl : cntR ([Row.label "lab"] ++ rs7 ++ [Row.label "fin"]) = cntR rs7 := cnt_lab rs7
      refine ⟨_, acc ++ [.ref t6], hs ++ [⟨nm h (i + 6), ow o0 o1 i, [Row.label "lab"] ++ rs7 ++ [Row.label "fin"]⟩], P0 + 2 + (cntR rs7).1, S0 + (cntR rs7).2, _, _, _, _, _, rfl, gg.set nHg hHLg hHLH HLS, sF7.trans sall, nHg, upd_same, ?_, ?_, ?_, ?_, ?_, by omega, by omega⟩
      · rw [List.map_append]
        have sFF : Same F' _ := ((s4.trans g5'.ff).trans sF7').trans sall
        refine (da.mono sFF).app (.cons (.tup (SqT.of upd_same) (.cons (.str _) (.cons (dAk.mono (sF7.trans sall)) (.cons ?_ .nil)))) .nil)
        refine .lst (sg _ _ upd_same) ?_
        rw [List.map_append, List.map_append]
        exact ((Das.cons (.tup (SqT.of (sg _ _ (sf _ _ (sd _ _ upd_same)))) (.cons (.str _) (.cons (.str _) .nil))) .nil).app (wra.mono sall)).app (.cons (.tup (SqT.of (sg _ _ (sf _ _ upd_same))) (.cons (.str _) (.cons (.str _) .nil))) .nil)
      · rw [List.map_append, hhs, List.take_succ, List.getElem?_map, List.getElem?_range hi]
        rfl
      · intro x hx
        rcases List.mem_append.mp hx with z | z
        · exact hrs x z
        · rw [List.mem_singleton.mp z]
          exact ⟨rs7, rfl, l7, o7⟩
      · rw [List.map_append, List.sum_append, hP]
        show _ = _ + ([2 + (cntR ([Row.label "lab"] ++ rs7 ++ [Row.label "fin"])).1] : List Int).sum
        rw [hcl]
        simp [Int.add_assoc]
      · rw [List.map_append, List.sum_append, hS0]
        show _ = _ + ([(cntR ([Row.label "lab"] ++ rs7 ++ [Row.label "fin"])).2] : List Int).sum
        rw [hcl]
        simp
  · rintro σ' H' ⟨F', acc, hs, P0, S0, x1, x2, x3, x4, x5, rfl, g, sF, nHL, hHL', da, hhs, hrs, hP, hS0, bP, bS⟩
    have hln : ((List.range n).map fun k => (nm h (k + 6), ow o0 o1 k)).length = n := by rw [List.length_map, List.length_range]
    rw [List.take_of_length_le (by rw [hln]; exact Nat.le_refl _)] at hhs
    have g2 := g.frz nHL hHL' hHLH HLS
    have s2 := Same.new (o := .lst acc) nHL
    refine ⟨_, rfl, _, rfl, _, rfl, (by show 3 ≤ sizeLine; decide), fun t ht => ?_⟩
    have g3 := g2.newF (o := .tup [.ref LB, .ref LL, .ref HL]) ht
    have s3 := Same.new (o := .tup [.ref LB, .ref LL, .ref HL]) (g2.fh.free ht)
    obtain ⟨tok, tr⟩ := tree_ok (hs := hs) oB b1 b2 cl3 n1 n3 oo0 ol0 oo1 ol1 hhs hrs (by omega) (by omega)
    refine q _ _ _ ⟨bs, (lockN h).take cl, hs⟩ g3 ?_ tok tr
    refine .tup (SqT.of upd_same) (.cons ((dB.mono sF).mono (s2.trans s3)) (.cons (.lst ((s2.trans s3) _ _ (sF _ _ nL)) (Das.of_strs _)) (.cons (.lst (s3 _ _ upd_same) (da.mono (s2.trans s3))) .nil)))
end
end Ca
namespace Ca
open PySem L2
abbrev s_l_at : Stmt := top 65
abbrev N_l_at : List Str := ["_law_hand", "_law_label", "_law_todo", "_law_rest"]
theorem sc_l_at : FnScope N_l_at ["_law_hand", "_law_label", "_law_todo"] (defScope s_l_at) := ⟨rfl, rfl, rfl, by decide +kernel, rfl, by decide +kernel, by decide +kernel⟩
-- cells: []  slots: 0=_law_hand 1=_law_label 2=_law_todo 3=_law_rest
abbrev s_l_true : Stmt := top 66
abbrev N_l_true : List Str := ["_law_remark_here", "_law_book", "_law_todo", "_law_some", "_law_one"]
theorem sc_l_true : FnScope N_l_true ["_law_remark_here", "_law_book", "_law_todo"] (defScope s_l_true) := ⟨rfl, rfl, rfl, by decide +kernel, rfl, by decide +kernel, by decide +kernel⟩
-- cells: ['_law_book', '_law_todo']  slots: 0=_law_remark_here 1=_law_book 2=_law_todo 3=_law_some 4=_law_one
/-! ## the law's own lists: rows with numbers -/
abbrev Ent := Int × Row
def entD (e : Ent) : PyData := .tuple [.int e.1, e.2.d]
structure Tdo where
  first : List Ent
  rest : List Ent
  flag : Bool
def Tdo.d (t : Tdo) : PyData := .tuple [.list (t.first.map entD), .list (t.rest.map entD), .bool t.flag]
def EntL (e : Ent) : Prop := Lay 20 e.2.d
def Tdo.L (t : Tdo) : Prop := (∀ e ∈ t.first, EntL e) ∧ ∀ e ∈ t.rest, EntL e
abbrev Tds := List (Str × Tdo)
/-- the dict of what is left to do -/
structure TdAt (K : PySem.W.Frag) (F H : Hp) (T : Addr) (td : Tds) : Prop where
  ex : ∃ as : List (Str × V), H T = some (.dK (as.map fun p => (.inr p.1, p.2))) ∧ as.map (·.1) = td.map (·.1) ∧ ∀ x a t, lkp as x = some a → lkp td x = some t → Da K F a t.d
  ly : ∀ p ∈ td, p.2.L
theorem TdAt.mono {K : PySem.W.Frag} {F H F' H' : Hp} {T : Addr} {td : Tds} (a : TdAt K F H T td) (e : Same F F') (k : ∀ o, H T = some o → H' T = some o) : TdAt K F' H' T td := by
  obtain ⟨⟨as, h1, h2, h3⟩, h4⟩ := a
  exact ⟨⟨as, k _ h1, h2, fun x y t hx ht => (h3 x y t hx ht).mono e⟩, h4⟩
theorem TdAt.get {K : PySem.W.Frag} {F H : Hp} {T : Addr} {td : Tds} {x : Str} {t : Tdo} (a : TdAt K F H T td) (h : lkp td x = some t) : ∃ v, DGet H T (.str x) (some v) ∧ Da K F v t.d ∧ t.L := by
  obtain ⟨⟨as, h1, h2, h3⟩, h4⟩ := a
  cases e : lkp as x with
  | none =>
    rw [lkp_none, h2, ← lkp_none] at e
    rw [e] at h
    cases h
  | some v =>
    have z := DGet.k (k := .inr x) h1
    have y := val_lkp (g := fun x : Str => (Sum.inr x : Key)) (fun _ _ e => Sum.inr.inj e) id x as
    have y' : valV (as.map fun p => ((Sum.inr p.1 : Key), p.2)) (.inr x) = some v := by
      refine y.trans ?_
      rw [e]
      rfl
    rw [y'] at z
    exact ⟨v, z, h3 x v t e h, h4 _ (lkp_mem h)⟩
/-- where a hand is, as the law says -/
def atV (t : Tdo) (l : Str) : Bool := if l = "lab" ∧ t.flag = false then PyData.eqv (.list (t.first.map entD)) (.list (t.rest.map entD)) else t.rest.isEmpty
def atT (td : Tds) (h l : Str) : Bool := match lkp td h with
  | some t => atV t l
  | none => false
theorem ents_lay {es : List Ent} (h : ∀ e ∈ es, EntL e) : SeqAt.shaped (.list (es.map entD)) = true :=
  (lay_lst (lay_m fun e he => lay_tup (lay2 (lay_int _) (h e he)))).shaped (by decide : 22 ≤ 64)
section
variable {P : Program} {w : World} {K : PySem.W.Frag} {mg : Str → Option Value} {base : Heap}
def spAtL (K : PySem.W.Frag) : Sp := Sp3 fun hand label todo H Q => ∃ (F : Hp) (x l : Str) (T : Addr) (td : Tds) (t : Tdo), hand = .str x ∧ label = .str l ∧ todo = .ref T ∧ Same F H ∧ TdAt K F H T td ∧ lkp td x = some t ∧ Q (.bl (atV t l)) H
theorem ok_at (F : FunAt K mg "_law_at" s_l_at) (G : Glb K mg) : Cal P w K mg base "_law_at" 1 ["_law_hand", "_law_label", "_law_todo"] (spAtL K) := by
  refine F.cal sc_l_at Sp3.len (fun _ _ _ _ _ _ us hl => match us, hl with | [_, _, _], _ => rfl) fun f cdv A outer s H vs Q E hr h => ?_
  have nd := sc_l_at.nd
  have hu := hu_of hr
  have m_len := G.len
  refine ⟨_, (pss_cons (ps_set (i := 3) nd rfl (Or.inl rfl) (pe_dget hu (pv 2) (pv 0) (fun _ _ => rfl)))
    (pss_cons (ps_if (PW.pt (pw_and (pt_cmpR op_eq (pv 1) pe_str (nomark _)) (pw_and1 (pt_not (pt_val (pe_ix ix_tup (pv 3) pe_int (fun _ _ => rfl))))))) (pss_one (ps_ret (pe_cmpR (op_eqD hr.units) (pe_ix ix_tup (pv 3) pe_int (fun _ _ => rfl)) (pe_ix ix_tup (pv 3) pe_int (fun _ _ => rfl)) (nomark _)))) pss_nil)
    (pss_one (ps_ret (pe_cmpR op_eq (pe_callB call_len_seq (by rfl) m_len (by decide +kernel) (pa_cons (pe_ix ix_tup (pv 3) pe_int (fun _ _ => rfl)) pa_nil)) pe_int (nomark _)))))), ?_⟩
  obtain ⟨hand, label, todo, rfl, F0, x, l, T, td, t, rfl, rfl, rfl, hF, a, ht, q⟩ := h
  obtain ⟨v, g, dv, hl⟩ := a.get ht
  obtain ⟨r, y1, y2, y3, rfl, k1, k2, k3, k4⟩ := dv.tup3
  cases k4.bl_inv
  obtain ⟨fa, fs, rfl, f1, f2⟩ := k2.lst_inv
  obtain ⟨ra, rs, rfl, r1, r2⟩ := k3.lst_inv
  have k1' := hF.tup k1
  have fl := f2.lenM
  have rl := r2.lenM
  refine ⟨_, rfl, _, rfl, T, _, rfl, g, ?_⟩
  have fin : atV t l = t.rest.isEmpty → ∃ (p : Addr) (ys : List V), [V.ref ra] = [.ref p] ∧ (SqL K H p ys ∨ SqT K H p ys) ∧ scal (.int (ys.length : Nat)) (.int 0) = true ∧ Q (.bl (decide (V.int (ys.length : Nat) = V.int 0))) H := fun e => by
    refine ⟨ra, rs, rfl, .inl (SqL.of (hF _ _ r1)), rfl, ?_⟩
    have e2 : decide (V.int (rs.length : Nat) = V.int 0) = t.rest.isEmpty := by
      rw [rl]
      cases t.rest with
      | nil => rfl
      | cons _ _ => exact decide_eq_false (fun z => by have := V.int.inj z; rw [List.length_cons] at this; omega)
    rw [e2, ← e]
    exact q
  refine ⟨_, rfl, rfl, _, rfl, ?_⟩
  by_cases el : l = "lab"
  · refine ite_b (decide_eq_true (congrArg V.str el)) ?_
    refine ⟨_, rfl, r, _, 2, _, rfl, rfl, k1', rfl, _, rfl, ?_⟩
    cases ef : t.flag with
    | false =>
      refine ite_b (by rfl) ?_
      refine ⟨_, rfl, r, _, 0, _, rfl, rfl, by rw [ef] at k1'; exact k1', at0, _, rfl, r, _, 1, _, rfl, rfl, by rw [ef] at k1'; exact k1', at1, _, _, ((Da.lst f1 f2).mono hF).dp, ((Da.lst r1 r2).mono hF).dp, ents_lay hl.1, ents_lay hl.2, ?_⟩
      unfold atV at q
      rw [if_pos ⟨el, ef⟩] at q
      exact q
    | true =>
      refine ite_nb (by rfl) ?_
      refine ⟨_, rfl, r, _, 1, _, rfl, rfl, by rw [ef] at k1'; exact k1', at1, fin (by unfold atV; rw [if_neg (fun z => by rw [ef] at z; exact absurd z.2 (by decide))])⟩
  · refine ite_nb (decide_eq_false (fun z => el (V.str.inj z))) ?_
    exact ⟨_, rfl, r, _, 1, _, rfl, rfl, k1', at1, fin (by unfold atV; rw [if_neg (fun z => el z.1)])⟩
end
def plcT : PyData → Str
  | .str l => l
  | _ => ""
mutual
def Rk.tv (b : Bk) (f : Str → Str → Bool) : Rk → Bool
  | .most s => decide (s.val b ≤ 0)
  | .rest s m => decide ((s.val b).fmod m = 0)
  | .at h p => f h (plcT p)
  | .not r => !r.tv b f
  | .and rs => (Rk.tvs b f rs).all id
  | .or rs => (Rk.tvs b f rs).any id
def Rk.tvs (b : Bk) (f : Str → Str → Bool) : List Rk → List Bool
  | [] => []
  | r :: rs => r.tv b f :: Rk.tvs b f rs
end
theorem Rk.tvs_eq (b : Bk) (f : Str → Str → Bool) : ∀ rs : List Rk, Rk.tvs b f rs = rs.map (Rk.tv b f)
  | [] => rfl
  | r :: rs => by
    show r.tv b f :: Rk.tvs b f rs = r.tv b f :: rs.map (Rk.tv b f)
    rw [Rk.tvs_eq b f rs]
def Rk.TOk (b : Bk) (td : Tds) : Nat → Rk → Prop
  | 0, _ => False
  | _ + 1, .most s => s.In b
  | _ + 1, .rest s m => s.In b ∧ m ≠ 0
  | _ + 1, .at h p => (∃ t, lkp td h = some t) ∧ ∃ l, p = .str l
  | n + 1, .not r => Rk.TOk b td n r
  | n + 1, .and rs => rs.length ≤ 10 ∧ ∀ r ∈ rs, Rk.TOk b td n r
  | n + 1, .or rs => rs.length ≤ 10 ∧ ∀ r ∈ rs, Rk.TOk b td n r
theorem in_bools (x : Bool) : ∀ bs : List Bool, inV (.bl x) (bs.map V.bl) = bs.any (· == x)
  | [] => rfl
  | b :: bs => by
    have ih := in_bools x bs
    unfold inV at ih ⊢
    rw [List.map_cons, List.any_cons, ih, List.any_cons]
    rfl
theorem flat_bools : ∀ bs : List Bool, (bs.map V.bl).all flatV = true
  | [] => rfl
  | _ :: bs => by
    rw [List.map_cons, List.all_cons, flat_bools bs]
    rfl
theorem all_not (bs : List Bool) : (!bs.any (· == false)) = bs.all id := by
  induction bs with
  | nil => rfl
  | cons b bs ih =>
    rw [List.any_cons, List.all_cons, ← ih]
    cases b <;> simp
theorem any_true (bs : List Bool) : bs.any (· == true) = bs.any id := by
  induction bs with
  | nil => rfl
  | cons b bs ih =>
    rw [List.any_cons, List.any_cons, ← ih]
    cases b <;> simp
section
variable {P : Program} {w : World} {K : PySem.W.Frag} {mg : Str → Option Value} {base : Heap}
def spTrue (K : PySem.W.Frag) (n : Nat) : Sp := Sp3 fun rem book todo H Q => ∃ (F : Hp) (r : Rk) (b : Bk) (a T : Addr) (td : Tds), Same F H ∧ Da K F rem r.d ∧ book = .ref a ∧ H a = some (.dK (bk b)) ∧ todo = .ref T ∧ TdAt K F H T td ∧ r.TOk b td n ∧
  ∀ H', Same H H' → Q (.bl (r.tv b (atT td))) H'
theorem true_step {n : Nat} (F : FunAt K mg "_law_true" s_l_true) (G : Glb K mg) (c_law_value : Cal P w K mg base "_law_value" 1 ["_law_one", "_law_book"] (spValue K)) (c_law_at : Cal P w K mg base "_law_at" 1 ["_law_hand", "_law_label", "_law_todo"] (spAtL K))
    (c_law_true : Cal P w K mg base "_law_true" (n + 1) ["_law_remark_here", "_law_book", "_law_todo"] (spTrue K n)) : Cal P w K mg base "_law_true" (n + 2) ["_law_remark_here", "_law_book", "_law_todo"] (spTrue K (n + 1)) := by
  refine F.cal sc_l_true Sp3.len (fun _ _ _ _ _ _ us hl => match us, hl with | [_, _, _], _ => rfl) fun f cdv A outer s H vs Q E hr h => ?_
  have nd := sc_l_true.nd
  have hu := hu_of hr
  refine ⟨_, (pss_cons (ps_if (pt_cmpR op_eq (pe_ix ix_tup (pv 0) pe_int (fun _ _ => rfl)) pe_str (nomark _)) (pss_one (ps_ret (pe_cmpR op_le (pe_cal c_law_value hr rfl (pa_cons (pe_ix ix_tup (pv 0) pe_int (fun _ _ => rfl)) (pa_cons (pv 1) pa_nil))) pe_int (nomark _)))) pss_nil)
    (pss_cons (ps_if (pt_cmpR op_eq (pe_ix ix_tup (pv 0) pe_int (fun _ _ => rfl)) pe_str (nomark _)) (pss_one (ps_ret (pe_cmpR op_eq (pe_op op_modN (pe_cal c_law_value hr rfl (pa_cons (pe_ix ix_tup (pv 0) pe_int (fun _ _ => rfl)) (pa_cons (pv 1) pa_nil))) (pe_ix ix_tup (pv 0) pe_int (fun _ _ => rfl))) pe_int (nomark _)))) pss_nil)
    (pss_cons (ps_if (pt_cmpR op_eq (pe_ix ix_tup (pv 0) pe_int (fun _ _ => rfl)) pe_str (nomark _)) (pss_one (ps_ret (pe_cal c_law_at hr rfl (pa_cons (pe_ix ix_tup (pv 0) pe_int (fun _ _ => rfl)) (pa_cons (pe_ix ix_tup (pv 0) pe_int (fun _ _ => rfl)) (pa_cons (pv 2) pa_nil)))))) pss_nil)
    (pss_cons (ps_if (pt_cmpR op_eq (pe_ix ix_tup (pv 0) pe_int (fun _ _ => rfl)) pe_str (nomark _)) (pss_one (ps_ret (pe_not (pe_cal c_law_true hr rfl (pa_cons (pe_ix ix_tup (pv 0) pe_int (fun _ _ => rfl)) (pa_cons (pv 1) (pa_cons (pv 2) pa_nil))))))) pss_nil)
    (pss_cons (ps_setLc (i := 3) rfl nd rfl rfl (sw_true rfl rfl rfl (by decide +kernel)) (own := [("_law_one", 4)]) (g := (gName 4)) (tt := tYes) (pi_tup (pe_ix ix_tup (pv 0) pe_int (fun _ _ => rfl))) (blkOk_by (own := [("_law_one", 4)]) (N := N_l_true) (sc := defScope s_l_true) (by decide +kernel)) (fun _ _ _ _ _ => (pg_name (i := 4) nd rfl (Or.inl rfl))) (fun _ _ _ _ _ => pts_nil) (fun _ _ _ _ _ => (pe_cal c_law_true hr rfl (pa_cons (pv 4) (pa_cons (pv 1) (pa_cons (pv 2) pa_nil))))))
    (pss_cons (ps_if (pt_cmpR op_eq (pe_ix ix_tup (pv 0) pe_int (fun _ _ => rfl)) pe_str (nomark _)) (pss_one (ps_ret (pe_cmpR op_notIn_seq pe_bl (pv 3) (by rfl)))) pss_nil)
    (pss_one (ps_ret (pe_cmpR op_in_seq pe_bl (pv 3) (by rfl)))))))))), ?_⟩
  obtain ⟨rem, book, todo, rfl, F0, r, b, a, T, td, hF, h1, rfl, ha, rfl, hT, hok, q⟩ := h
  cases r with
  | most s =>
    obtain ⟨t, x, rfl, h2, h3⟩ := Rk.at_most h1
    have h2 := hF.tup h2
    refine ⟨_, rfl, t, _, 0, _, rfl, rfl, h2, at0, rfl, _, rfl, ite_eq ?_⟩
    refine ⟨_, rfl, t, _, 1, _, rfl, rfl, h2, at1, _, rfl, _, _, rfl, s, b, a, h3.mono hF, rfl, ha, hok, fun H' e => ?_⟩
    exact ⟨_, _, rfl, rfl, q H' e⟩
  | rest s m =>
    obtain ⟨t, x, rfl, h2, h3⟩ := Rk.at_rest h1
    have h2 := hF.tup h2
    refine ⟨_, rfl, t, _, 0, _, rfl, rfl, h2, at0, rfl, _, rfl, ite_ne (by decide +kernel) ?_⟩
    refine ⟨_, rfl, t, _, 0, _, rfl, rfl, h2, at0, rfl, _, rfl, ite_eq ?_⟩
    refine ⟨_, rfl, t, _, 1, _, rfl, rfl, h2, at1, _, rfl, _, _, rfl, s, b, a, h3.mono hF, rfl, ha, hok.1, fun H' e => ?_⟩
    refine ⟨_, rfl, t, _, 2, _, rfl, rfl, e.tup h2, rfl, _, _, rfl, rfl, hok.2, rfl, ?_⟩
    have z := q H' e
    have e2 : decide (V.int ((s.val b).fmod m) = V.int 0) = (Rk.rest s m).tv b (atT td) := by
      show _ = decide ((s.val b).fmod m = 0)
      rw [Bool.eq_iff_iff]
      simp
    rw [← e2] at z
    exact z
  | «at» h p =>
    obtain ⟨t, x, rfl, h2, h3⟩ := Rk.at_at h1
    have h2 := hF.tup h2
    obtain ⟨⟨tt, htt⟩, l, rfl⟩ := hok
    cases h3.str_inv
    refine ⟨_, rfl, t, _, 0, _, rfl, rfl, h2, at0, rfl, _, rfl, ite_ne (by decide +kernel) ?_⟩
    refine ⟨_, rfl, t, _, 0, _, rfl, rfl, h2, at0, rfl, _, rfl, ite_ne (by decide +kernel) ?_⟩
    refine ⟨_, rfl, t, _, 0, _, rfl, rfl, h2, at0, rfl, _, rfl, ite_eq ?_⟩
    refine ⟨_, rfl, t, _, 1, _, rfl, rfl, h2, at1, _, rfl, t, _, 2, _, rfl, rfl, h2, rfl, _, rfl, _, _, _, rfl, F0, h, l, T, td, tt, rfl, rfl, rfl, hF, hT, htt, ?_⟩
    have z := q H (Same.refl H)
    have e2 : atV tt l = (Rk.at h (.str l)).tv b (atT td) := by
      show _ = atT td h l
      unfold atT
      rw [htt]
    rw [← e2] at z
    exact z
  | not r =>
    obtain ⟨t, x, rfl, h2, h3⟩ := Rk.at_not h1
    have h2 := hF.tup h2
    refine ⟨_, rfl, t, _, 0, _, rfl, rfl, h2, at0, rfl, _, rfl, ite_ne (by decide +kernel) ?_⟩
    refine ⟨_, rfl, t, _, 0, _, rfl, rfl, h2, at0, rfl, _, rfl, ite_ne (by decide +kernel) ?_⟩
    refine ⟨_, rfl, t, _, 0, _, rfl, rfl, h2, at0, rfl, _, rfl, ite_ne (by decide +kernel) ?_⟩
    refine ⟨_, rfl, t, _, 0, _, rfl, rfl, h2, at0, rfl, _, rfl, ite_eq ?_⟩
    refine ⟨_, rfl, t, _, 1, _, rfl, rfl, h2, at1, _, rfl, _, rfl, _, _, _, rfl, F0, r, b, a, T, td, hF, h3, rfl, ha, rfl, hT, hok, fun H' e => ?_⟩
    exact ⟨_, rfl, q H' e⟩
  | and rs =>
    obtain ⟨t, t2, xs, rfl, h2, h3, h4⟩ := Rk.at_and h1
    have h2 := hF.tup h2
    refine ⟨_, rfl, t, _, 0, _, rfl, rfl, h2, at0, rfl, _, rfl, ite_ne (by decide +kernel) ?_⟩
    refine ⟨_, rfl, t, _, 0, _, rfl, rfl, h2, at0, rfl, _, rfl, ite_ne (by decide +kernel) ?_⟩
    refine ⟨_, rfl, t, _, 0, _, rfl, rfl, h2, at0, rfl, _, rfl, ite_ne (by decide +kernel) ?_⟩
    refine ⟨_, rfl, t, _, 0, _, rfl, rfl, h2, at0, rfl, _, rfl, ite_ne (by decide +kernel) ?_⟩
    refine ⟨_, rfl, t, _, 1, _, rfl, rfl, h2, at1, t2, rfl, ⟨_, hF.tup h3⟩, fun D hD => lc_tup (K := K) (a := t2) (xs := xs) (LcP H rs (fun r => some (.bl (r.tv b (atT td)))) D)
      (LcP.start hD) (fun i H' _ p => p.same.tup (hF.tup h3)) ?_ ?_⟩
    · intro i v H' hi p
      obtain ⟨r, hr', hv⟩ := h4.getM hi
      refine ⟨rfl, _, rfl, _, rfl, _, rfl, _, _, _, rfl, F0, r, b, a, T, td, hF.trans p.same, hv, rfl, p.same _ _ ha, rfl, hT.mono (Same.refl _) (fun o e => p.same _ _ e), hok.2 r (List.mem_of_getElem? hr'), fun H2 e => ?_⟩
      exact p.put e hr' rfl (by have := hok.1; omega)
    · intro H' p
      rw [h4.lenM] at p
      obtain ⟨p1, p2, p3⟩ := p.end_
      rw [fm_map] at p3
      have e : rs.map (fun r => V.bl (r.tv b (atT td))) = (rs.map (Rk.tv b (atT td))).map V.bl := by rw [List.map_map]; rfl
      rw [e] at p3
      refine ⟨_, rfl, t, _, 0, _, rfl, rfl, p2.tup h2, at0, rfl, _, rfl, ite_eq ?_⟩
      refine ⟨_, rfl, D, _, rfl, .inl (SqL.of p3), rfl, flat_bools _, ?_⟩
      have z := q H' p2
      have e2 : (Rk.and rs).tv b (atT td) = (rs.map (Rk.tv b (atT td))).all id := by
        show (Rk.tvs b (atT td) rs).all id = _
        rw [Rk.tvs_eq]
      rw [e2, ← all_not, ← in_bools] at z
      exact z
  | or rs =>
    obtain ⟨t, t2, xs, rfl, h2, h3, h4⟩ := Rk.at_or h1
    have h2 := hF.tup h2
    refine ⟨_, rfl, t, _, 0, _, rfl, rfl, h2, at0, rfl, _, rfl, ite_ne (by decide +kernel) ?_⟩
    refine ⟨_, rfl, t, _, 0, _, rfl, rfl, h2, at0, rfl, _, rfl, ite_ne (by decide +kernel) ?_⟩
    refine ⟨_, rfl, t, _, 0, _, rfl, rfl, h2, at0, rfl, _, rfl, ite_ne (by decide +kernel) ?_⟩
    refine ⟨_, rfl, t, _, 0, _, rfl, rfl, h2, at0, rfl, _, rfl, ite_ne (by decide +kernel) ?_⟩
    refine ⟨_, rfl, t, _, 1, _, rfl, rfl, h2, at1, t2, rfl, ⟨_, hF.tup h3⟩, fun D hD => lc_tup (K := K) (a := t2) (xs := xs) (LcP H rs (fun r => some (.bl (r.tv b (atT td)))) D)
      (LcP.start hD) (fun i H' _ p => p.same.tup (hF.tup h3)) ?_ ?_⟩
    · intro i v H' hi p
      obtain ⟨r, hr', hv⟩ := h4.getM hi
      refine ⟨rfl, _, rfl, _, rfl, _, rfl, _, _, _, rfl, F0, r, b, a, T, td, hF.trans p.same, hv, rfl, p.same _ _ ha, rfl, hT.mono (Same.refl _) (fun o e => p.same _ _ e), hok.2 r (List.mem_of_getElem? hr'), fun H2 e => ?_⟩
      exact p.put e hr' rfl (by have := hok.1; omega)
    · intro H' p
      rw [h4.lenM] at p
      obtain ⟨p1, p2, p3⟩ := p.end_
      rw [fm_map] at p3
      have e : rs.map (fun r => V.bl (r.tv b (atT td))) = (rs.map (Rk.tv b (atT td))).map V.bl := by rw [List.map_map]; rfl
      rw [e] at p3
      refine ⟨_, rfl, t, _, 0, _, rfl, rfl, p2.tup h2, at0, rfl, _, rfl, ite_ne (by decide +kernel) ?_⟩
      refine ⟨_, rfl, D, _, rfl, .inl (SqL.of p3), rfl, flat_bools _, ?_⟩
      have z := q H' p2
      have e2 : (Rk.or rs).tv b (atT td) = (rs.map (Rk.tv b (atT td))).any id := by
        show (Rk.tvs b (atT td) rs).any id = _
        rw [Rk.tvs_eq]
      rw [e2, ← any_true, ← in_bools] at z
      exact z
theorem ok_true (F : FunAt K mg "_law_true" s_l_true) (G : Glb K mg) (c_law_value : Cal P w K mg base "_law_value" 1 ["_law_one", "_law_book"] (spValue K)) (c_law_at : Cal P w K mg base "_law_at" 1 ["_law_hand", "_law_label", "_law_todo"] (spAtL K)) :
    ∀ n, Cal P w K mg base "_law_true" (n + 1) ["_law_remark_here", "_law_book", "_law_todo"] (spTrue K n)
  | 0 => F.none (fun _ _ _ _ _ _ us hl => match us, hl with | [_, _, _], _ => rfl) fun vs H Q E ⟨_, _, _, _, _, _, _, _, _, _, _, _, _, _, _, _, z, _⟩ => z
  | n + 1 => true_step F G c_law_value c_law_at (ok_true F G c_law_value c_law_at n)
end
end Ca
namespace Ca
open PySem L2
abbrev s_l_list : Stmt := top 67
abbrev N_l_list : List Str := ["_law_rows_here", "_law_pen", "_law_found", "_law_row"]
theorem sc_l_list : FnScope N_l_list ["_law_rows_here", "_law_pen"] (defScope s_l_list) := ⟨rfl, rfl, rfl, by decide +kernel, rfl, by decide +kernel, by decide +kernel⟩
-- cells: []  slots: 0=_law_rows_here 1=_law_pen 2=_law_found 3=_law_row
/-- a step that may move the pen -/
structure Gp (N : Addr) (F H F' H' : Hp) (p : Int) : Prop where
  gr : Gr (OnlyS N) F H F' H'
  at_ : H' N = some (.lst [.int p])
  nf : F' N = none
section
variable {N : Addr} {F H F1 H1 F2 H2 : Hp} {p p' : Int}
theorem Gp.refl (h : Same F H) (a : H N = some (.lst [.int p])) (n : F N = none) : Gp N F H F H p := ⟨Gr.refl h, a, n⟩
theorem Gp.trans (a : Gp N F H F1 H1 p) (b : Gp N F1 H1 F2 H2 p') : Gp N F H F2 H2 p' := ⟨a.gr.trans b.gr, b.at_, b.nf⟩
theorem Gp.ne (a : Gp N F H F1 H1 p) {q : Addr} (h : H1 q = none) : q ≠ N := fun e => by
  rw [e, a.at_] at h
  cases h
theorem Gp.new (a : Gp N F H F1 H1 p) {q : Addr} {o : HO} (h : H1 q = none) : Gp N F H F1 (upd H1 q o) p := ⟨a.gr.new h, upd_at a.at_ (a.ne h).symm, a.nf⟩
theorem Gp.newF (a : Gp N F H F1 H1 p) {q : Addr} {o : HO} (h : H1 q = none) : Gp N F H (upd F1 q o) (upd H1 q o) p := ⟨a.gr.newF h, upd_at a.at_ (a.ne h).symm, by rw [upd_ne (a.ne h).symm]; exact a.nf⟩
theorem Gp.sub (a : Gp N F H F1 H1 p) : Gp N F1 H1 F1 H1 p := ⟨Gr.refl a.gr.fh, a.at_, a.nf⟩
theorem Gp.same (a : Gp N F H F1 H1 p) (e : Same H1 H2) : Gp N F H F1 H2 p := ⟨a.gr.same e, e _ _ a.at_, a.nf⟩
theorem Gp.set (a : Gp N F H F1 H1 p) {q : Addr} {o u : HO} (n : F1 q = none) (h : H1 q = some u) (hp : H q = none) (ns : q ≠ N) : Gp N F H F1 (upd H1 q o) p := ⟨a.gr.set n h (.inr hp), upd_at a.at_ ns.symm, a.nf⟩
theorem Gp.pen (a : Gp N F H F1 H1 p) : Gp N F H F1 (upd H1 N (.lst [.int p'])) p' := ⟨a.gr.set a.nf a.at_ (.inl rfl), upd_same, a.nf⟩
theorem Gp.frz (a : Gp N F H F1 H1 p) {q : Addr} {o : HO} (n : F1 q = none) (h : H1 q = some o) (hp : H q = none) (ns : q ≠ N) : Gp N F H (upd F1 q o) H1 p := ⟨a.gr.frz n h hp, a.at_, by rw [upd_ne ns.symm]; exact a.nf⟩
theorem Gp.fh (a : Gp N F H F1 H1 p) : Same F1 H1 := a.gr.fh
theorem Gp.ff (a : Gp N F H F1 H1 p) : Same F F1 := a.gr.ff
end
/-- rows with their numbers -/
def numb : Int → List Row → List Ent
  | _, [] => []
  | p, r :: rs => (p + 1, r) :: numb (p + 1) rs
def lstR (rs : List Row) : List Row := if stm rs = [] then [.skip] else stm rs
theorem numb_snoc : ∀ (p : Int) (rs : List Row) (r : Row), numb p (rs ++ [r]) = numb p rs ++ [(p + rs.length + 1, r)]
  | p, [], r => by
    show [(p + 1, r)] = [(p + ((0 : Nat) : Int) + 1, r)]
    simp
  | p, a :: rs, r => by
    show (p + 1, a) :: numb (p + 1) (rs ++ [r]) = (p + 1, a) :: (numb (p + 1) rs ++ _)
    rw [numb_snoc (p + 1) rs r]
    have e : p + 1 + (rs.length : Int) + 1 = p + ((a :: rs).length : Nat) + 1 := by
      rw [List.length_cons]
      omega
    rw [e]
theorem numb_len : ∀ (p : Int) (rs : List Row), (numb p rs).length = rs.length
  | _, [] => rfl
  | p, _ :: rs => congrArg (· + 1) (numb_len (p + 1) rs)
section
variable {P : Program} {w : World} {K : PySem.W.Frag} {mg : Str → Option Value} {base : Heap}
def spList (K : PySem.W.Frag) : Sp := Sp2 fun rows pen H Q => ∃ (F : Hp) (N : Addr) (p : Int) (rs : List Row), pen = .ref N ∧ Gp N F H F H p ∧ Da K F rows (rd rs) ∧ rs.length ≤ 1000 ∧ (∀ x ∈ stm rs, Lay 20 x.d) ∧
  ∀ F' H' v, Gp N F H F' H' (p + (lstR rs).length) → Da K F' v (.list ((numb p (lstR rs)).map entD)) → Q v H'
theorem ok_list (F : FunAt K mg "_law_list" s_l_list) (G : Glb K mg) (c_law_statements : Cal P w K mg base "_law_statements" 1 ["_law_rows_here"] (spStm K)) : Cal P w K mg base "_law_list" 2 ["_law_rows_here", "_law_pen"] (spList K) := by
  refine F.cal sc_l_list Sp2.len (fun _ _ _ _ _ _ us hl => match us, hl with | [_, _], _ => rfl) fun f cdv A outer s H vs Q E hr h => ?_
  have nd := sc_l_list.nd
  have hu := hu_of hr
  have m_int := G.int
  refine ⟨_, (pss_cons (ps_set (i := 2) nd rfl (Or.inl rfl) (pe_lst pa_nil))
    (pss_cons (ps_for PassesOwn.never rfl (pi_list (pe_op op_cat (pe_cal c_law_statements hr rfl (pa_cons (pv 0) pa_nil)) (pe_op op_rep (pe_lst (pa_cons (pe_tup (pa_cons pe_str (pa_cons pe_str pa_nil))) pa_nil)) (pe_callTy call_int1 (by rfl) m_int (by decide +kernel) (pa_cons (pe_cmpR (op_eqD hr.units) (pe_cal c_law_statements hr rfl (pa_cons (pv 0) pa_nil)) (pe_lst pa_nil) (nomark _)) pa_nil))))) (pg_name (i := 3) nd rfl (Or.inl rfl))
      (pss_cons (ps_asg (pe_op op_add (pe_ix ix_list (pv 1) pe_int (fun _ _ => rfl)) pe_int) (pg_sub (pv 1) pe_int set_list))
      (pss_one (ps_expr (pe_bm PySem.F.plainAttrs_list PySem.F.slot_list_append PySem.F.type_list_append mt_append (pv 2) (pa_cons (pe_tup (pa_cons (pe_ix ix_list (pv 1) pe_int (fun _ _ => rfl)) (pa_cons (pv 3) pa_nil))) pa_nil))))))
    (pss_one (ps_ret (pv 2))))), ?_⟩
  obtain ⟨rows, pen, rfl, F0, N, p, rs, rfl, g0, h1, hl, hlay, q⟩ := h
  have hst : (stm rs).length ≤ rs.length := List.length_filter_le _ _
  refine ⟨Nat.zero_le _, fun L hL => ?_⟩
  have g1 := g0.new (o := .lst []) hL
  have LN : L ≠ N := g0.ne hL
  refine ⟨_, rfl, _, rfl, F0, rs, g1.fh, h1, by omega, fun a1 H1 ys hn1 e1 ha1 hys => ?_⟩
  have g2 := g1.same e1
  refine ⟨(by show 2 ≤ sizeLine; decide), fun t ht => ⟨(by show 1 ≤ sizeLine; decide), fun l hl1 => ?_⟩⟩
  have g3 := g2.newF (o := .tup [.str "skip", .str ""]) ht
  have s3 := Same.new (o := .tup [.str "skip", .str ""]) (g2.fh.free ht)
  have g4 := g3.new (o := .lst [.ref t]) hl1
  refine ⟨_, rfl, _, rfl, _, rs, g4.fh, h1.mono s3, by omega, fun a2 H2 ys2 hn2 e2 ha2 hys2 => ?_⟩
  have g5 := g4.same e2
  refine ⟨Nat.zero_le _, fun l2 hl2 => ?_⟩
  have g6 := g5.new (o := .lst []) hl2
  have e6 : Same H2 (upd H2 l2 (.lst [])) := Same.new hl2
  have shp : SeqAt.shaped (.list ((stm rs).map Row.d)) = true := (lay_lst (lay_m fun x hx => hlay x hx)).shaped (by decide : 21 ≤ 64)
  have elen : ys.length = (stm rs).length := hys.lenM
  refine ⟨.list ((stm rs).map Row.d), .list [], .lst (SqL.of (e6 _ _ ha2)) ((hys2.mono g6.fh).dp), .lst (SqL.of upd_same) .nil, shp, rfl, .inr ⟨_, rfl, ?_⟩⟩
  have ek : V.int (if PyData.eqv (.list ((stm rs).map Row.d)) (.list []) = true then 1 else 0) = V.int (if stm rs = [] then 1 else 0) := by
    rw [eqv_nil]
    cases stm rs <;> rfl
  have ll : upd H2 l2 (.lst []) l = some (.lst [.ref t]) := e6 _ _ (e2 _ _ upd_same)
  have kb : -(2 ^ 63) ≤ (if stm rs = [] then (1 : Int) else 0) ∧ (if stm rs = [] then (1 : Int) else 0) < 2 ^ 63 ∧ ([V.ref t] : List V).length * (if stm rs = [] then (1 : Int) else 0).toNat ≤ sizeLine := by
    by_cases e : stm rs = []
    · rw [if_pos e]; exact ⟨by decide, by decide, by show 1 * 1 ≤ sizeLine; decide⟩
    · rw [if_neg e]; exact ⟨by decide, by decide, Nat.zero_le _⟩
  refine ⟨l, _, [.ref t], rfl, ek, ll, kb.1, kb.2.1, kb.2.2, fun l3 hl3 => ?_⟩
  obtain ⟨zs, hzs⟩ : ∃ zs, zs = (List.replicate (if stm rs = [] then (1 : Int) else 0).toNat [V.ref t]).flatten := ⟨_, rfl⟩
  rw [← hzs]
  have g7 := g6.new (o := .lst zs) hl3
  have e7 : Same H2 _ := e6.trans (Same.new (o := .lst zs) hl3)
  have dz : Das K (upd F0 t (.tup [.str "skip", .str ""])) (ys ++ zs) ((lstR rs).map Row.d) := by
    unfold lstR
    rw [hzs]
    by_cases e : stm rs = []
    · rw [if_pos e, if_pos e]
      rw [e] at hys
      cases hys
      exact .cons (.tup (SqT.of upd_same) (.cons (.str _) (.cons (.str _) .nil))) .nil
    · rw [if_neg e, if_neg e]
      show Das K _ (ys ++ []) _
      rw [List.append_nil]
      exact hys.mono s3
  have lz : (ys ++ zs).length = (lstR rs).length := dz.lenM
  have lR : (lstR rs).length ≤ 1001 := by
    unfold lstR
    by_cases e : stm rs = []
    · rw [if_pos e]; show 1 ≤ 1001; omega
    · rw [if_neg e]; omega
  have ha1' : upd (upd H2 l2 (.lst [])) l3 (.lst zs) a1 = some (.lst ys) := e7 _ _ (e2 _ _ (Same.new hl1 _ _ (Same.new ht _ _ ha1)))
  have lz2 : ys.length + zs.length ≤ 1001 := by
    rw [← List.length_append, lz]
    exact lR
  refine ⟨a1, l3, ys, zs, rfl, rfl, ha1', upd_same, by rw [sizeLine_eq]; omega, fun l4 hl4 => ?_⟩
  have g8 := g7.newF (o := .lst (ys ++ zs)) hl4
  have s8 := Same.new (o := .lst (ys ++ zs)) (g7.fh.free hl4)
  have hL8 : upd (upd (upd H2 l2 (.lst [])) l3 (.lst zs)) l4 (.lst (ys ++ zs)) L = some (.lst []) := Same.new hl4 _ _ (e7 _ _ (e2 _ _ (Same.new hl1 _ _ (Same.new ht _ _ (e1 _ _ upd_same)))))
  have nL8 : upd (upd F0 t (.tup [.str "skip", .str ""])) l4 (.lst (ys ++ zs)) L = none := by
    have n1 : L ≠ t := ne_of_none (e1 _ _ upd_same) ht
    have n4 : L ≠ l4 := ne_of_none (e7 _ _ (e2 _ _ (Same.new hl1 _ _ (Same.new ht _ _ (e1 _ _ upd_same))))) hl4
    rw [upd_ne n4, upd_ne n1]
    exact g0.fh.free hL
  refine ⟨l4, rfl, ⟨_, SqL.of upd_same⟩, for_list (K := K) (a := l4) (xs := ys ++ zs) (fun i σ H' => ∃ (F' : Hp) (acc : List V) (x : Option V), σ = [some rows, some (.ref N), some (.ref L), x] ∧ Gp N F0 H F' H' (p + (i : Nat)) ∧ Same (upd (upd F0 t (.tup [.str "skip", .str ""])) l4 (.lst (ys ++ zs))) F' ∧ F' L = none ∧ H' L = some (.lst acc) ∧ Das K F' acc ((numb p ((lstR rs).take i)).map entD))
    ⟨_, [], none, rfl, by show Gp N F0 H _ _ (p + 0); rw [Int.add_zero]; exact g8, Same.refl _, nL8, hL8, .nil⟩ (fun i σ H' _ ⟨_, _, _, _, g, sF, _⟩ => SqL.of (g.fh _ _ (sF _ _ upd_same))) ?_ ?_⟩
  · rintro i v σ H' hi ⟨F', acc, x, rfl, g, sF, nL, hL', da⟩
    obtain ⟨r, hr', hv⟩ := (dz.mono s8).getM hi
    have htk : (lstR rs).take (i + 1) = (lstR rs).take i ++ [r] := by rw [List.take_succ, hr']; rfl
    have hil := (List.getElem?_eq_some_iff.mp hr').1
    have hti : ((lstR rs).take i).length = i := by rw [List.length_take]; omega
    refine ⟨_, rfl, N, _, 0, _, rfl, rfl, SqL.of g.at_, rfl, _, _, rfl, rfl, _, rfl, N, _, 0, 0, rfl, rfl, g.at_, rfl, ?_⟩
    have g' := g.pen (p' := p + (i : Nat) + 1)
    have hL2 := upd_at (u := .lst [.int (p + (i : Nat) + 1)]) hL' LN
    refine ⟨_, rfl, .inl ⟨rfl, acc, SqL.of hL2⟩, _, rfl, N, _, 0, _, rfl, rfl, SqL.of upd_same, rfl, _, rfl, (by show 2 ≤ sizeLine; decide), fun t2 ht2 => ?_⟩
    have g9 := g'.newF (o := .tup [.int (p + (i : Nat) + 1), v]) ht2
    have s9 := Same.new (o := .tup [.int (p + (i : Nat) + 1), v]) (g'.fh.free ht2)
    have nLt : L ≠ t2 := ne_of_none hL2 ht2
    have hL9 := upd_at (u := .tup [.int (p + (i : Nat) + 1), v]) hL2 nLt
    have nL9 : upd F' t2 (.tup [.int (p + (i : Nat) + 1), v]) L = none := by rw [upd_ne nLt]; exact nL
    have lacc := da.lenM
    rw [numb_len] at lacc
    refine ⟨L, acc, _, rfl, rfl, hL9, by rw [sizeLine_eq]; omega, ?_⟩
    have g10 := g9.set (o := .lst (acc ++ [.ref t2])) nL9 hL9 hL LN
    have ep : p + ((i + 1 : Nat) : Int) = p + (i : Nat) + 1 := by omega
    refine ⟨_, acc ++ [.ref t2], _, rfl, by rw [ep]; exact g10, sF.trans s9, nL9, upd_same, ?_⟩
    rw [htk, numb_snoc, List.map_append, hti]
    exact (da.mono s9).app (.cons (.tup (SqT.of upd_same) (.cons (.int _) (.cons (hv.mono (sF.trans s9)) .nil))) .nil)
  · rintro σ H' ⟨F', acc, x, rfl, g, sF, nL, hL', da⟩
    rw [lz, List.take_length] at da
    rw [lz] at g
    exact ⟨_, rfl, q _ _ _ (g.frz nL hL' hL LN) (.lst upd_same (da.mono (Same.new nL)))⟩
end
end Ca
namespace Ca
open PySem L2
abbrev s_l_opened : Stmt := top 68
abbrev N_l_opened : List Str := ["_law_rest", "_law_pen"]
theorem sc_l_opened : FnScope N_l_opened ["_law_rest", "_law_pen"] (defScope s_l_opened) := ⟨rfl, rfl, rfl, by decide +kernel, rfl, by decide +kernel, by decide +kernel⟩
-- cells: []  slots: 0=_law_rest 1=_law_pen
/-- rounds at the head are opened -/
def opn : Nat → Int → List Ent → List Ent × Int
  | 0, p, es => (es, p)
  | _ + 1, p, [] => ([], p)
  | n + 1, p, e :: r => match e.2 with
    | .rounds m a => opn n (p + (lstR (List.replicate m.toNat a).flatten).length) (numb p (lstR (List.replicate m.toNat a).flatten) ++ r)
    | _ => (e :: r, p)
def RkG (E : En) (n : Nat) (r : Row) : Prop := r.Ok E n ∨ r = .skip
def HdG (E : En) (n : Nat) : List Ent → Prop
  | [] => True
  | e :: _ => RkG E n e.2
def isRd : Row → Bool
  | .rounds _ _ => true
  | _ => false
theorem opn_no {n : Nat} {p : Int} {e : Ent} {r : List Ent} (h : isRd e.2 = false) : opn n p (e :: r) = (e :: r, p) := by
  cases n with
  | zero => rfl
  | succ n =>
    unfold opn
    cases e2 : e.2 <;> first | rfl | (rw [e2] at h; cases h)
theorem opn_nil {n : Nat} {p : Int} : opn n p [] = ([], p) := by cases n <;> rfl
theorem lay_skip : Lay 20 Row.skip.d := (lay_tup (k := 0) (lay2 (lay_str (by decide +kernel)) (lay_str (by decide +kernel)))).mono (by decide)
theorem lstR_g {E : En} {n : Nat} {rs : List Row} (h : ∀ x ∈ stm rs, x.Ok E n) : ∀ x ∈ lstR rs, RkG E n x := fun x hx => by
  unfold lstR at hx
  by_cases e : stm rs = []
  · rw [if_pos e] at hx
    exact .inr (List.mem_singleton.mp hx)
  · rw [if_neg e] at hx
    exact .inl (h x hx)
theorem rkg_lay {E : En} {n : Nat} {r : Row} (hn : n ≤ 4) (h : RkG E n r) : Lay 20 r.d := by
  rcases h with h | h
  · exact (Row.lay n r h).mono (by omega)
  · rw [h]
    exact lay_skip
theorem lstR_ne (rs : List Row) : lstR rs ≠ [] := by
  unfold lstR
  by_cases e : stm rs = []
  · rw [if_pos e]; exact fun z => nomatch z
  · rw [if_neg e]; exact e
theorem numb_mem : ∀ {p : Int} {rs : List Row} {e : Ent}, e ∈ numb p rs → e.2 ∈ rs
  | _, r :: rs, e, h => by
    rcases List.mem_cons.mp h with z | z
    · rw [z]; exact List.mem_cons_self
    · exact List.mem_cons_of_mem _ (numb_mem z)
theorem rep_len {α : Type} (n : Nat) (a : List α) : (List.replicate n a).flatten.length = n * a.length := by simp
theorem ent_at {K : PySem.W.Frag} {F : Hp} {v : V} {e : Ent} (h : Da K F v (entD e)) : ∃ t x, v = .ref t ∧ SqT K F t [.int e.1, x] ∧ Da K F x e.2.d := by
  obtain ⟨a, x, y, rfl, h1, h2, h3⟩ := h.tup2
  cases h2.int_inv
  exact ⟨a, y, rfl, h1, h3⟩
theorem cut1 (x : V) (xs : List V) : cutV (x :: xs) (some 1) none = xs := by
  have h1 : HT.sIx (x :: xs).length 0 (some 1) = 1 := by
    unfold HT.sIx
    simp
  have h2 : HT.sIx (x :: xs).length (x :: xs).length none = (x :: xs).length := rfl
  unfold cutV
  rw [h1, h2]
  show xs.take ((x :: xs).length - 1) = xs
  rw [List.length_cons]
  exact List.take_of_length_le (by omega)
section
variable {P : Program} {w : World} {K : PySem.W.Frag} {mg : Str → Option Value} {base : Heap}
def spOpen (K : PySem.W.Frag) : Sp := Sp2 fun rest pen H Q => ∃ (F : Hp) (N : Addr) (p : Int) (es : List Ent) (E : En) (n : Nat), pen = .ref N ∧ Gp N F H F H p ∧ Da K F rest (.list (es.map entD)) ∧ HdG E n es ∧ n ≤ 4 ∧ es.length ≤ 100000 ∧
  ∀ F' H' v, Gp N F H F' H' (opn n p es).2 → Da K F' v (.list ((opn n p es).1.map entD)) → Q v H'
theorem word_rd : ∀ r : Row, (r.word = "rounds") ↔ isRd r = true := fun r => by
  cases r with
  | rounds _ _ => exact ⟨fun _ => rfl, fun _ => rfl⟩
  | set _ => exact ⟨fun z => absurd z (by decide +kernel : ¬ ("set" : Str) = "rounds"), fun z => nomatch z⟩
  | wait _ => exact ⟨fun z => absurd z (by decide +kernel : ¬ ("wait" : Str) = "rounds"), fun z => nomatch z⟩
  | iff _ _ _ => exact ⟨fun z => absurd z (by decide +kernel : ¬ ("if" : Str) = "rounds"), fun z => nomatch z⟩
  | whl _ _ => exact ⟨fun z => absurd z (by decide +kernel : ¬ ("while" : Str) = "rounds"), fun z => nomatch z⟩
  | either _ => exact ⟨fun z => absurd z (by decide +kernel : ¬ ("either" : Str) = "rounds"), fun z => nomatch z⟩
  | take _ => exact ⟨fun z => absurd z (by decide +kernel : ¬ ("take" : Str) = "rounds"), fun z => nomatch z⟩
  | give _ => exact ⟨fun z => absurd z (by decide +kernel : ¬ ("give" : Str) = "rounds"), fun z => nomatch z⟩
  | label _ => exact ⟨fun z => absurd z (by decide +kernel : ¬ ("label" : Str) = "rounds"), fun z => nomatch z⟩
  | say _ => exact ⟨fun z => absurd z (by decide +kernel : ¬ ("say" : Str) = "rounds"), fun z => nomatch z⟩
  | skip => exact ⟨fun z => absurd z (by decide +kernel : ¬ ("skip" : Str) = "rounds"), fun z => nomatch z⟩
theorem ok_open (F : FunAt K mg "_law_opened" s_l_opened) (G : Glb K mg) (c_law_list : Cal P w K mg base "_law_list" 2 ["_law_rows_here", "_law_pen"] (spList K)) : Cal P w K mg base "_law_opened" 3 ["_law_rest", "_law_pen"] (spOpen K) := by
  refine F.cal sc_l_opened Sp2.len (fun _ _ _ _ _ _ us hl => match us, hl with | [_, _], _ => rfl) fun f cdv A outer s H vs Q E hr h => ?_
  have nd := sc_l_opened.nd
  have hu := hu_of hr
  have m_len := G.len
  refine ⟨_, (pss_cons (ps_while PassesOwn.never (PW.pt (pw_and (pt_cmpR op_gt (pe_callB call_len_seq (by rfl) m_len (by decide +kernel) (pa_cons (pv 0) pa_nil)) pe_int (nomark _)) (pw_and1 (pt_cmpR op_eq (pe_ix ix_tup (pe_ix ix_tup (pe_ix ix_list (pv 0) pe_int (fun _ _ => rfl)) pe_int (fun _ _ => rfl)) pe_int (fun _ _ => rfl)) pe_str (nomark _))))) (pss_one (ps_set (i := 0) nd rfl (Or.inl rfl) (pe_op op_cat (pe_cal c_law_list hr rfl (pa_cons (pe_op op_rep (pe_ix ix_tup (pe_ix ix_tup (pe_ix ix_list (pv 0) pe_int (fun _ _ => rfl)) pe_int (fun _ _ => rfl)) pe_int (fun _ _ => rfl)) (pe_ix ix_tup (pe_ix ix_tup (pe_ix ix_list (pv 0) pe_int (fun _ _ => rfl)) pe_int (fun _ _ => rfl)) pe_int (fun _ _ => rfl))) (pa_cons (pv 1) pa_nil))) (pe_slice sl_list (pv 0) (po_some pe_int) po_none)))))
    (pss_one (ps_ret (pv 0)))), ?_⟩
  obtain ⟨rest, pen, rfl, F0, N, p, es, E0, n, rfl, g0, h1, hd, hn, hl, q⟩ := h
  refine ⟨fun m σ H' => ∃ (F' : Hp) (v : V) (p' : Int) (es' : List Ent), σ = [some v, some (.ref N)] ∧ Gp N F0 H F' H' p' ∧ Da K F' v (.list (es'.map entD)) ∧ HdG E0 m es' ∧ m ≤ 4 ∧ es'.length + m * 1001 ≤ 104004 ∧ opn m p' es' = opn n p es, ⟨n, F0, rest, p, es, rfl, g0, h1, hd, hn, by omega, rfl⟩, ?_⟩
  rintro m σ H' ⟨F', v, p', es', rfl, g, dv, hd', hm, hl', eo⟩
  obtain ⟨a, xs, rfl, ha, hx⟩ := dv.lst_inv
  have lx := hx.lenM
  have ha' := g.fh _ _ ha
  refine ⟨_, rfl, a, _, rfl, .inl (SqL.of ha'), _, _, rfl, rfl, _, rfl, ?_⟩
  cases es' with
  | nil =>
    refine ite_nb (decide_eq_false (by rw [lx]; decide)) ?_
    refine ite_nb rfl ?_
    rw [opn_nil] at eo
    exact ⟨_, rfl, q _ _ _ (by rw [← eo]; exact g) (by rw [← eo]; exact dv)⟩
  | cons e r =>
    refine ite_b (decide_eq_true (by rw [lx, List.length_cons]; omega)) ?_
    obtain ⟨v0, vs, rfl, hv0, hvs⟩ := hx.cons_inv
    obtain ⟨t, x, rfl, k1, k2⟩ := ent_at hv0
    obtain ⟨t2, us, rfl, hw⟩ := Row.at_word k2
    have k1' := g.fh.tup k1
    have hw' := g.fh.tup hw
    refine ⟨_, rfl, a, _, 0, _, rfl, rfl, SqL.of ha', at0, t, _, 1, _, rfl, rfl, k1', at1, t2, _, 0, _, rfl, rfl, hw', at0, rfl, _, rfl, ?_⟩
    cases er : isRd e.2 with
    | false =>
      refine ite_nb (decide_eq_false (fun z => by have := (word_rd e.2).mp (V.str.inj z); rw [er] at this; cases this)) ?_
      rw [opn_no er] at eo
      exact ⟨_, rfl, q _ _ _ (by rw [← eo]; exact g) (by rw [← eo]; exact dv)⟩
    | true =>
      refine ite_b (decide_eq_true (congrArg V.str ((word_rd e.2).mpr er))) ?_
      obtain ⟨pn, row⟩ := e
      cases row with
      | rounds k b =>
        have hd2 : RkG E0 m (Row.rounds k b) := hd'
        rcases hd2 with hd2 | hd2
        rotate_left
        · cases hd2
        cases m with
        | zero => exact hd2.elim
        | succ m =>
        have k0 := hd2.1
        have k3 := hd2.2.1
        have b4 := hd2.2.2.1
        have hall : ∀ x ∈ (List.replicate k.toNat b).flatten, x.Ok E0 m := fun x hx => by
          obtain ⟨l1, hl1, hx1⟩ := List.mem_flatten.mp hx
          rw [(List.mem_replicate.mp hl1).2] at hx1
          exact hd2.2.2.2 x hx1
        have hlen : ((List.replicate k.toNat b).flatten).length ≤ 12 := by
          rw [rep_len]
          have : k.toNat * b.length ≤ 3 * 4 := Nat.mul_le_mul (by omega) b4
          omega
        obtain ⟨t3, y, et, h2, h4⟩ := Row.at_rounds k2
        cases et
        obtain ⟨bb, bvs, rfl, hb, hbv⟩ := h4.lst_inv
        have lb := hbv.lenM
        have h2' := g.fh.tup h2
        refine ⟨fun σ' H9 => ∃ m', m' < m + 1 ∧ ∃ (F' : Hp) (v : V) (p' : Int) (es' : List Ent), σ' = [some v, some (.ref N)] ∧ Gp N F0 H F' H9 p' ∧ Da K F' v (.list (es'.map entD)) ∧ HdG E0 m' es' ∧ m' ≤ 4 ∧ es'.length + m' * 1001 ≤ 104004 ∧ opn m' p' es' = opn n p es, fun σ' H9 z => z, ?_⟩
        refine ⟨_, rfl, a, _, 0, _, rfl, rfl, SqL.of ha', at0, t, _, 1, _, rfl, rfl, k1', at1, t2, _, 2, _, rfl, rfl, h2', rfl, _, rfl, a, _, 0, _, rfl, rfl, SqL.of ha', at0, t, _, 1, _, rfl, rfl, k1', at1, t2, _, 1, _, rfl, rfl, h2', at1, bb, k, bvs, rfl, rfl, g.fh _ _ hb, by omega, by omega, ?_, fun q1 hq1 => ?_⟩
        · rw [lb, sizeLine_eq]
          have : b.length * k.toNat ≤ 4 * 3 := Nat.mul_le_mul b4 (by omega)
          omega
        have g1 := g.newF (o := .lst (List.replicate k.toNat bvs).flatten) hq1
        have s1 := Same.new (o := .lst (List.replicate k.toNat bvs).flatten) (g.fh.free hq1)
        have drep : Das K F' (List.replicate k.toNat bvs).flatten (((List.replicate k.toNat b).flatten).map Row.d) := by
          have z := hbv.rep k.toNat
          rw [List.map_flatten, List.map_replicate]
          exact z
        refine ⟨_, rfl, _, _, rfl, _, N, p', (List.replicate k.toNat b).flatten, rfl, g1.sub, .lst upd_same (drep.mono s1), by omega, fun x hx => rkg_lay (n := m) (by omega) (.inl (hall x (mem_stm hx).1)), fun F3 H3 v2 g3 d3 => ?_⟩
        obtain ⟨c2, ws, rfl, hc2, hws⟩ := d3.lst_inv
        have g4 := g1.trans g3
        have a3 := g4.ff
        have ha3 := g3.fh _ _ (g3.ff _ _ (s1 _ _ ha))
        refine ⟨_, rfl, _, rfl, a, _, rfl, SqL.of ha3, fun q2 hq2 => ?_⟩
        rw [cut1]
        have lws := hws.lenM
        rw [numb_len] at lws
        have lR : (lstR (List.replicate k.toNat b).flatten).length ≤ 1001 := by
          unfold lstR
          by_cases e : stm (List.replicate k.toNat b).flatten = []
          · rw [if_pos e]; show 1 ≤ 1001; omega
          · rw [if_neg e]
            have : (stm (List.replicate k.toNat b).flatten).length ≤ ((List.replicate k.toNat b).flatten).length := List.length_filter_le _ _
            omega
        have lvs : vs.length = r.length := hvs.lenM
        have hl2 : r.length + 1 + (m + 1) * 1001 ≤ 104004 := hl'
        refine ⟨c2, q2, ws, vs, rfl, rfl, Same.new hq2 _ _ (g3.fh _ _ hc2), upd_same, by rw [sizeLine_eq]; omega, fun q3 hq3 => ?_⟩
        have g5 := (g4.new (o := .lst vs) hq2).newF (o := .lst (ws ++ vs)) hq3
        have s5 := Same.new (o := .lst (ws ++ vs)) ((g4.new (o := .lst vs) hq2).fh.free hq3)
        refine ⟨m, Nat.lt_succ_self m, _, .ref q3, _, numb p' (lstR (List.replicate k.toNat b).flatten) ++ r, rfl, g5, .lst upd_same ?_, ?_, by omega, ?_, eo⟩
        · rw [List.map_append]
          exact (hws.mono s5).app ((hvs.mono s1).mono (g3.ff.trans s5))
        · have hg := lstR_g (E := E0) (n := m) (rs := (List.replicate k.toNat b).flatten) fun x hx => hall x (mem_stm hx).1
          cases e9 : lstR (List.replicate k.toNat b).flatten with
          | nil => exact absurd e9 (lstR_ne _)
          | cons r0 rr =>
            show RkG E0 m r0
            exact hg r0 (by rw [e9]; exact List.mem_cons_self)
        · rw [List.length_append, numb_len]
          omega
      | _ => cases er
end
end Ca
namespace Ca
open PySem L2
theorem pi_or {X : Cx} {tg e : Expr} {t1 t2 : TI} (h1 : PI X tg e t1) (h2 : PI X tg e t2) : PI X tg e (fun σ H R => t1 σ H R ∨ t2 σ H R) :=
  ⟨fun pins s σ H R I h => h.elim (fun z => h1.run pins s σ H R I z) fun z => h2.run pins s σ H R I z⟩
abbrev s_l_set : Stmt := top 69
abbrev N_l_set : List Str := ["_law_sets", "_law_book", "_law_stretches", "_law_then", "_law_box_here", "_law_one"]
theorem sc_l_set : FnScope N_l_set ["_law_sets", "_law_book", "_law_stretches"] (defScope s_l_set) := ⟨rfl, rfl, rfl, by decide +kernel, rfl, by decide +kernel, by decide +kernel⟩
-- cells: []  slots: 0=_law_sets 1=_law_book 2=_law_stretches 3=_law_then 4=_law_box_here 5=_law_one
/-- the stretches: a name, its tuple, from where to where -/
abbrev Str4 := List (Str × Addr × Int × Int)
def strK (st : Str4) : List (Key × V) := st.map fun p => (.inr p.1, .ref p.2.1)
def inS (st : Str4) (t : Bk) : Bool := st.all fun p => decide (p.2.2.1 ≤ lk t p.1) && decide (lk t p.1 ≤ p.2.2.2)
section
variable {P : Program} {w : World} {K : PySem.W.Frag} {mg : Str → Option Value} {base : Heap}
def spSetL (K : PySem.W.Frag) : Sp := Sp3 fun sets book stretches H Q => ∃ (F : Hp) (b : Bk) (s a D : Addr) (xs : List V) (ss : List (Str × Sm)) (st : Str4), Same F H ∧ sets = .ref s ∧ (H s = some (.lst xs) ∨ SqT K F s xs) ∧ Das K F xs (ss.map sd) ∧ book = .ref a ∧ H a = some (.dK (bk b)) ∧ b.length ≤ 100 ∧
  stretches = .ref D ∧ H D = some (.dK (strK st)) ∧ (st.map (·.1)).Nodup ∧ (∀ p ∈ st, H p.2.1 = some (.tup [.int p.2.2.1, .int p.2.2.2]) ∧ p.1 ∈ b.map (·.1)) ∧ ss.length ≤ 100 ∧ (∀ q ∈ ss, q.1 ∈ b.map (·.1) ∧ q.2.In b) ∧
  (inS st (setB b ss) = false → ∀ H', Same H H' → Q .non H') ∧ (inS st (setB b ss) = true → ∀ m H', H m = none → Same H H' → H' m = some (.dK (bk (setB b ss))) → Q (.ref m) H')
theorem ok_setL (F : FunAt K mg "_law_set" s_l_set) (G : Glb K mg) (c_law_value : Cal P w K mg base "_law_value" 1 ["_law_one", "_law_book"] (spValue K)) : Cal P w K mg base "_law_set" 2 ["_law_sets", "_law_book", "_law_stretches"] (spSetL K) := by
  refine F.cal sc_l_set Sp3.len (fun _ _ _ _ _ _ us hl => match us, hl with | [_, _, _], _ => rfl) fun f cdv A outer s H vs Q E hr h => ?_
  have nd := sc_l_set.nd
  have hu := hu_of hr
  have m_dict := G.dict
  refine ⟨_, (pss_cons (ps_set (i := 3) nd rfl (Or.inl rfl) (pe_callTy call_dictD (by rfl) m_dict (by decide +kernel) (pa_cons (pv 1) pa_nil)))
    (Evl.pss_cut (ps_for PassesOwn.never rfl (pi_or (pi_list (pv 0)) (pi_tup (pv 0))) (pg_tup rfl (pgs_cons (pg_name (i := 4) nd rfl (Or.inl rfl)) (pgs_cons (pg_name (i := 5) nd rfl (Or.inl rfl)) pgs_nil)))
      (pss_one (ps_dput hu (pv 3) (pv 4) (pe_cal c_law_value hr rfl (pa_cons (pv 5) (pa_cons (pv 1) pa_nil))) rfl)))
    (pss_cons (ps_lock (ps_for PassesOwn.never rfl (pi_keys (pv 2)) (pg_name (i := 4) nd rfl (Or.inl rfl))
      (pss_one (ps_if (pt_not (pt_chain op_le op_le (pe_ix ix_tup (pe_dget hu (pv 2) (pv 4) (fun _ _ => rfl)) pe_int (fun _ _ => rfl)) (pe_dget hu (pv 3) (pv 4) (fun _ _ => rfl)) (pe_ix ix_tup (pe_dget hu (pv 2) (pv 4) (fun _ _ => rfl)) pe_int (fun _ _ => rfl)))) (pss_one (ps_ret pe_non)) pss_nil))))
    (pss_one (ps_ret (pv 3)))))), ?_⟩
  obtain ⟨sets, book, stretches, rfl, F0, b, s, a, D, xs, ss, st, hF, rfl, hs, dss, rfl, ha, hbl, rfl, hD, hnd, hst, hsl, hin, qn, qs⟩ := h
  refine ⟨_, rfl, a, bk b, rfl, .inl ha, fun m hm => ?_⟩
  have hkt : ∀ i, ((ss.take i).foldl (fun t p => putB t p.1 (p.2.val b)) b).map (·.1) = b.map (·.1) := fun i => setB_keys (fun q hq => (hin q (List.mem_of_mem_take hq)).1) rfl
  have hbk : ∀ t : Bk, t.map (·.1) = b.map (·.1) → (bk t).length ≤ 100 := fun t e => by
    have e2 := congrArg List.length e
    rw [List.length_map, List.length_map] at e2
    unfold bk
    rw [List.length_map]
    omega
  refine ⟨fun σ' H' => ∃ (x y : Option V), σ' = [some (.ref s), some (.ref a), some (.ref D), some (.ref m), x, y] ∧ Same H H' ∧ H' m = some (.dK (bk (setB b ss))), ?_, ?_⟩
  · rcases hs with hs | hs
    · refine .inl ⟨_, rfl, s, rfl, ⟨_, SqL.of ((Same.new hm) _ _ hs)⟩, for_list (K := K) (a := s) (xs := xs) (fun i σ H' => ∃ (x y : Option V), σ = [some (.ref s), some (.ref a), some (.ref D), some (.ref m), x, y] ∧ Same H H' ∧ H' m = some (.dK (bk ((ss.take i).foldl (fun t p => putB t p.1 (p.2.val b)) b))))
        ⟨none, none, rfl, Same.new hm, upd_same⟩ (fun i σ H' _ ⟨_, _, _, e, _⟩ => SqL.of (e _ _ hs)) ?_ ?_⟩
      · rintro i v σ H' hi ⟨x, y, rfl, e1, dm⟩
        obtain ⟨q, hq, hv⟩ := dss.getM hi
        obtain ⟨o1, o2⟩ := hin q (List.mem_of_getElem? hq)
        obtain ⟨t1, y1, rfl, k1, k2⟩ := sd_at hv
        refine ⟨t1, _, rfl, (hF.trans e1).tup k1, rfl, _, _, rfl, _, _, rfl, rfl, ?_⟩
        refine ⟨_, rfl, _, rfl, _, _, rfl, q.2, b, a, k2.mono (hF.trans e1), rfl, e1 _ _ ha, o2, fun H2 e2 => ?_⟩
        refine ⟨_, rfl, _, rfl, m, _, rfl, DPut.k (k := .inr q.1) (e2 _ _ dm) ?_, ?_⟩
        · have := hbk _ (hkt i)
          rw [sizeLine_eq]
          omega
        · refine ⟨_, _, rfl, (e1.trans e2).mut hm, ?_⟩
          rw [upd_same, fold_take _ _ hq, bk_put]
      · rintro σ H' ⟨x, y, rfl, e1, dm⟩
        rw [dss.lenM, List.take_length] at dm
        exact ⟨x, y, rfl, e1, dm⟩
    · refine .inr ⟨_, rfl, s, rfl, ⟨_, (hF.trans (Same.new hm)).tup hs⟩, for_tup (K := K) (a := s) (xs := xs) (fun i σ H' => ∃ (x y : Option V), σ = [some (.ref s), some (.ref a), some (.ref D), some (.ref m), x, y] ∧ Same H H' ∧ H' m = some (.dK (bk ((ss.take i).foldl (fun t p => putB t p.1 (p.2.val b)) b))))
        ⟨none, none, rfl, Same.new hm, upd_same⟩ (fun i σ H' _ ⟨_, _, _, e, _⟩ => (hF.trans e).tup hs) ?_ ?_⟩
      · rintro i v σ H' hi ⟨x, y, rfl, e1, dm⟩
        obtain ⟨q, hq, hv⟩ := dss.getM hi
        obtain ⟨o1, o2⟩ := hin q (List.mem_of_getElem? hq)
        obtain ⟨t1, y1, rfl, k1, k2⟩ := sd_at hv
        refine ⟨t1, _, rfl, (hF.trans e1).tup k1, rfl, _, _, rfl, _, _, rfl, rfl, ?_⟩
        refine ⟨_, rfl, _, rfl, _, _, rfl, q.2, b, a, k2.mono (hF.trans e1), rfl, e1 _ _ ha, o2, fun H2 e2 => ?_⟩
        refine ⟨_, rfl, _, rfl, m, _, rfl, DPut.k (k := .inr q.1) (e2 _ _ dm) ?_, ?_⟩
        · have := hbk _ (hkt i)
          rw [sizeLine_eq]
          omega
        · refine ⟨_, _, rfl, (e1.trans e2).mut hm, ?_⟩
          rw [upd_same, fold_take _ _ hq, bk_put]
      · rintro σ H' ⟨x, y, rfl, e1, dm⟩
        rw [dss.lenM, List.take_length] at dm
        exact ⟨x, y, rfl, e1, dm⟩
  rintro σ' H1 ⟨x, y, rfl, e1, dm⟩
  have hD1 := e1 _ _ hD
  have ma : a ≠ m := ne_of_none ha hm
  have Dm : m ≠ D := fun e => by
    rw [e, hD] at hm
    cases hm
  have hks : (setB b ss).map (·.1) = b.map (·.1) := by
    have z := hkt ss.length
    rw [List.take_length] at z
    exact z
  have back : ∀ od, Same H1 (upd (upd H1 D (.frz od (.dK (strK st)))) D (.dK (strK st))) := fun od c o q => by
    by_cases hc : c = D
    · rw [hc] at q ⊢
      rw [upd_same, ← q]
      exact hD1.symm
    · rw [upd_ne hc, upd_ne hc]
      exact q
  refine ⟨D, _, hD1, trivial, fun od => ?_⟩
  have dmL : upd H1 D (.frz od (.dK (strK st))) m = some (.dK (bk (setB b ss))) := upd_at dm Dm
  refine ⟨_, rfl, D, od, rfl, .inl ⟨strK st, upd_same, for_it walk_keys (fun i σ H' => ∃ (x y : Option V), σ = [some (.ref s), some (.ref a), some (.ref D), some (.ref m), x, y] ∧ H' = upd H1 D (.frz od (.dK (strK st))) ∧ (st.take i).all (fun p => decide (p.2.2.1 ≤ lk (setB b ss) p.1) && decide (lk (setB b ss) p.1 ≤ p.2.2.2)) = true)
    ⟨x, y, rfl, rfl, rfl⟩ (fun i σ H' _ ⟨_, _, _, e, _⟩ => by rw [e]; exact upd_same) ?_ ?_⟩⟩
  · rintro i v σ H' H'' hi ⟨x, y, rfl, rfl, hall⟩ ⟨e2, k, w0, hk, rfl⟩
    subst e2
    unfold strK at hk
    rw [List.getElem?_map] at hk
    cases hp : st[i]? with
    | none =>
      rw [hp] at hk
      cases hk
    | some p =>
      rw [hp] at hk
      cases hk
      have hpm := List.mem_of_getElem? hp
      obtain ⟨t1, t2⟩ := hst p hpm
      have hin2 : p.1 ∈ (setB b ss).map (·.1) := by rw [hks]; exact t2
      have hv : valV (strK st) (.inr p.1) = some (.ref p.2.1) := by
        have z := val_lkp (g := fun x : Str => (Sum.inr x : Key)) (fun _ _ e => Sum.inr.inj e) (fun q : Addr × Int × Int => V.ref q.1) p.1 st
        rw [lkp_of hnd (show (p.1, p.2) ∈ st from hpm)] at z
        exact z
      have g1 : DGet (upd H1 D (.frz od (.dK (strK st)))) D (.str p.1) (some (.ref p.2.1)) := .inl ⟨strK st, .inr p.1, .inr ⟨od, upd_same⟩, rfl, hv.symm⟩
      have g2 : DGet (upd H1 D (.frz od (.dK (strK st)))) m (.str p.1) (some (.int (lk (setB b ss) p.1))) := by
        have z := DGet.k (k := .inr p.1) dmL
        rw [get_bk hin2] at z
        exact z
      have tt : SqT K (upd H1 D (.frz od (.dK (strK st)))) p.2.1 [.int p.2.2.1, .int p.2.2.2] := SqT.of (upd_at (e1 _ _ t1) (ne_kind t1 hD (fun z => nomatch z)))
      have out : (decide (p.2.2.1 ≤ lk (setB b ss) p.1) && decide (lk (setB b ss) p.1 ≤ p.2.2.2)) = false → (upd H1 D (.frz od (.dK (strK st)))) D = some (.frz od (.dK (strK st))) ∧ Q .non (upd (upd H1 D (.frz od (.dK (strK st)))) D (.dK (strK st))) := fun e => by
        refine ⟨upd_same, qn ?_ _ (e1.trans (back od))⟩
        unfold inS
        cases e4 : st.all fun p => decide (p.2.2.1 ≤ lk (setB b ss) p.1) && decide (lk (setB b ss) p.1 ≤ p.2.2.2) with
        | false => rfl
        | true =>
          rw [List.all_eq_true] at e4
          rw [e4 p hpm] at e
          cases e
      refine ⟨_, rfl, _, rfl, D, _, rfl, g1, p.2.1, _, 0, _, rfl, rfl, tt, at0, _, rfl, _, rfl, m, _, rfl, g2, _, _, rfl, rfl, _, rfl, ?_⟩
      by_cases hlo : p.2.2.1 ≤ lk (setB b ss) p.1
      · refine ite_b (decide_eq_true hlo) ?_
        refine ⟨_, rfl, _, rfl, D, _, rfl, g1, p.2.1, _, 1, _, rfl, rfl, tt, at1, _, _, rfl, rfl, _, rfl, ?_⟩
        by_cases hhi : lk (setB b ss) p.1 ≤ p.2.2.2
        · refine ite_nb (by rw [decide_eq_true hhi]; rfl) ?_
          exact ⟨_, _, rfl, rfl, all_take hp hall (by rw [decide_eq_true hlo, decide_eq_true hhi]; rfl)⟩
        · refine ite_b (by rw [decide_eq_false hhi]; rfl) ?_
          exact out (by rw [decide_eq_false hhi, Bool.and_false])
      · refine ite_nb (decide_eq_false hlo) ?_
        refine ⟨_, rfl, ?_⟩
        refine ite_b (by rfl) ?_
        exact out (by rw [decide_eq_false hlo]; rfl)
  · rintro σ H' ⟨x, y, rfl, rfl, hall⟩
    have hsl2 : (strK st).length = st.length := List.length_map _
    rw [hsl2, List.take_length] at hall
    exact ⟨upd_same, _, rfl, qs hall m _ hm (e1.trans (back od)) (back od _ _ dm)⟩
end
end Ca
namespace Ca
open PySem L2
abbrev s_l_moves : Stmt := top 70
abbrev N_l_moves : List Str := ["_law_rest", "_law_number_here", "_law_book", "_law_todo", "_law_stretches", "_law_pen", "_law_row", "_law_left", "_law_holds_here", "_law_way"]
theorem sc_l_moves : FnScope N_l_moves ["_law_rest", "_law_number_here", "_law_book", "_law_todo", "_law_stretches", "_law_pen"] (defScope s_l_moves) := ⟨rfl, rfl, rfl, by decide +kernel, rfl, by decide +kernel, by decide +kernel⟩
-- cells: ['_law_book', '_law_left', '_law_pen']  slots: 0=_law_rest 1=_law_number_here 2=_law_book 3=_law_todo 4=_law_stretches 5=_law_pen 6=_law_row 7=_law_left 8=_law_holds_here 9=_law_way
abbrev Mv := Option Bk × List Ent
def setS (st : Str4) (b : Bk) (ss : List (Str × Sm)) : Option Bk := if inS st (setB b ss) = true then some (setB b ss) else none
/-- the ways of an either, numbered -/
def mvW (b : Bk) (left : List Ent) : Int → List (List Row) → List Mv × Int
  | p, [] => ([], p)
  | p, w :: ws => ((some b, numb p (lstR w) ++ left) :: (mvW b left (p + (lstR w).length) ws).1, (mvW b left (p + (lstR w).length) ws).2)
/-- what the law's text says may come next -/
def mv (num : Int) (b : Bk) (f : Str → Str → Bool) (st : Str4) (p : Int) : List Ent → List Mv × Int
  | [] => ([], p)
  | e :: left => match e.2 with
    | .set ss => ([(setS st b ss, left)], p)
    | .wait r => (if r.tv b f = true then [(some b, left)] else [], p)
    | .take l => (if lk b l ≤ 0 then [(setS st b [(l, ⟨num, []⟩)], left)] else [], p)
    | .give l => ([(setS st b [(l, ⟨0, []⟩)], left)], p)
    | .skip => ([(some b, left)], p)
    | .either ws => mvW b left p ws
    | .whl r a => if r.tv b f = true then ([(some b, numb p (lstR a) ++ (e :: left))], p + (lstR a).length) else ([(some b, left)], p)
    | .iff r a c => if r.tv b f = true then ([(some b, numb p (lstR a) ++ left)], p + (lstR a).length) else if c = [] then ([(some b, left)], p) else ([(some b, numb p (lstR c) ++ left)], p + (lstR c).length)
    | _ => ([], p)
/-- a move as it stands -/
def BkAt (F : Hp) (x : V) : Option Bk → Prop
  | none => x = .non
  | some b => ∃ a, x = .ref a ∧ F a = some (.dK (bk b))
def MvAt (K : PySem.W.Frag) (F : Hp) (v : V) (m : Mv) : Prop := ∃ t x y, v = .ref t ∧ SqT K F t [x, y] ∧ BkAt F x m.1 ∧ Da K F y (.list (m.2.map entD))
inductive MvsAt (K : PySem.W.Frag) (F : Hp) : List V → List Mv → Prop
  | nil : MvsAt K F [] []
  | cons {v : V} {vs : List V} {m : Mv} {ms : List Mv} : MvAt K F v m → MvsAt K F vs ms → MvsAt K F (v :: vs) (m :: ms)
section
variable {K : PySem.W.Frag} {F F' : Hp}
theorem BkAt.mono (e : Same F F') {x : V} : ∀ {m : Option Bk}, BkAt F x m → BkAt F' x m
  | none, h => h
  | some _, ⟨a, h1, h2⟩ => ⟨a, h1, e _ _ h2⟩
theorem MvAt.mono (e : Same F F') {v : V} {m : Mv} (h : MvAt K F v m) : MvAt K F' v m := by
  obtain ⟨t, x, y, h1, h2, h3, h4⟩ := h
  exact ⟨t, x, y, h1, e.tup h2, h3.mono e, h4.mono e⟩
theorem MvsAt.mono (e : Same F F') : ∀ {ms : List Mv} {vs : List V}, MvsAt K F vs ms → MvsAt K F' vs ms
  | _, _, .nil => .nil
  | _, _, .cons h t => .cons (h.mono e) (MvsAt.mono e t)
theorem MvsAt.length : ∀ {ms : List Mv} {vs : List V}, MvsAt K F vs ms → vs.length = ms.length
  | _, _, .nil => rfl
  | _, _, .cons _ t => congrArg (· + 1) (MvsAt.length t)
theorem MvsAt.snoc {v : V} {m : Mv} (k : MvAt K F v m) : ∀ {ms : List Mv} {vs : List V}, MvsAt K F vs ms → MvsAt K F (vs ++ [v]) (ms ++ [m])
  | _, _, .nil => .cons k .nil
  | _, _, .cons h t => .cons h (MvsAt.snoc k t)
theorem MvsAt.get : ∀ {ms : List Mv} {vs : List V} {i : Nat} {v : V}, MvsAt K F vs ms → vs[i]? = some v → ∃ m, ms[i]? = some m ∧ MvAt K F v m
  | _, _, _, _, .nil, e => by simp at e
  | _, _, 0, _, .cons h _, e => by
    simp at e
    subst e
    exact ⟨_, rfl, h⟩
  | _, _, i + 1, v, .cons _ t, e => by
    obtain ⟨m, h1, h2⟩ := MvsAt.get (i := i) (v := v) t (by simpa using e)
    exact ⟨m, by simpa using h1, h2⟩
end
/-- names that the rows of a hand may use -/
structure EnB (E : En) (b : Bk) (td : Tds) : Prop where
  keys : ∀ x ∈ E.mine ++ E.locks, x ∈ b.map (·.1)
  hands : ∀ h ∈ E.hands, ∃ t, lkp td h = some t
theorem sm_in {E : En} {b : Bk} {td : Tds} (e : EnB E b td) {s : Sm} (h : s.Ok (E.mine ++ E.locks)) : s.In b := fun p hp => ⟨e.keys _ (h.2 p hp).1, (h.2 p hp).2.2.1, (h.2 p hp).2.2.2⟩
theorem rk_tok {E : En} {b : Bk} {td : Tds} (e : EnB E b td) : ∀ (n : Nat) (r : Rk), r.Ok (E.mine ++ E.locks) E.hands n → r.TOk b td n
  | 0, _, h => h.elim
  | n + 1, .most s, h => sm_in e h
  | n + 1, .rest s m, h => ⟨sm_in e h.1, by have := h.2; omega⟩
  | n + 1, .at x p, h => ⟨e.hands x h.1, by rcases h.2.2 with z | z <;> exact ⟨_, z⟩⟩
  | n + 1, .not r, h => rk_tok e n r h
  | n + 1, .and rs, h => ⟨h.1, fun r hr => rk_tok e n r (h.2 r hr)⟩
  | n + 1, .or rs, h => ⟨h.1, fun r hr => rk_tok e n r (h.2 r hr)⟩
end Ca
namespace Ca
open PySem L2
section
variable {P : Program} {w : World} {K : PySem.W.Frag} {mg : Str → Option Value} {base : Heap}
def spMoves (K : PySem.W.Frag) : Sp := Sp6 fun rest number book todo stretches pen H Q => ∃ (F : Hp) (N a T D : Addr) (p num : Int) (es : List Ent) (b : Bk) (td : Tds) (st : Str4) (E : En), pen = .ref N ∧ Gp N F H F H p ∧ Da K F rest (.list (es.map entD)) ∧ (∀ e ∈ es, EntL e) ∧ es.length ≤ 100000 ∧
  (∀ e r, es = e :: r → RkG E 3 e.2 ∧ e.2.mark = false ∧ isRd e.2 = false) ∧ number = .int num ∧ book = .ref a ∧ F a = some (.dK (bk b)) ∧ b.length ≤ 100 ∧ todo = .ref T ∧ TdAt K F H T td ∧ T ≠ N ∧ stretches = .ref D ∧ F D = some (.dK (strK st)) ∧ (st.map (·.1)).Nodup ∧
  (∀ q ∈ st, F q.2.1 = some (.tup [.int q.2.2.1, .int q.2.2.2]) ∧ q.1 ∈ b.map (·.1)) ∧ EnB E b td ∧
  ∀ F' H' l vs, Gp N F H F' H' (mv num b (atT td) st p es).2 → F' l = some (.lst vs) → MvsAt K F' vs (mv num b (atT td) st p es).1 → Q (.ref l) H'
theorem mk_mv {N : Addr} {F H F2 H2 : Hp} {p : Int} {x y : V} {m : Mv} {t l : Addr} (g : Gp N F H F2 H2 p) (hx : BkAt F2 x m.1) (hy : Da K F2 y (.list (m.2.map entD))) (h5 : H2 t = none) (h6 : upd H2 t (.tup [x, y]) l = none) :
    ∃ F', Gp N F H F' (upd (upd H2 t (.tup [x, y])) l (.lst [.ref t])) p ∧ F' l = some (.lst [.ref t]) ∧ MvsAt K F' [.ref t] [m] := by
  have g1 := g.newF (o := .tup [x, y]) h5
  have s1 := Same.new (o := .tup [x, y]) (g.fh.free h5)
  have g2 := g1.newF (o := .lst [.ref t]) h6
  have s2 := Same.new (o := .lst [.ref t]) (g1.fh.free h6)
  exact ⟨_, g2, upd_same, .cons ⟨t, x, y, rfl, s2.tup (SqT.of upd_same), hx.mono (s1.trans s2), hy.mono (s1.trans s2)⟩ .nil⟩
theorem mk_bk {N : Addr} {F H F2 H2 H3 : Hp} {p : Int} {m : Addr} {b : Bk} (g : Gp N F H F2 H2 p) (hH : Same H H2) (e : Same H2 H3) (hm : H2 m = none) (hm3 : H3 m = some (.dK (bk b))) : ∃ F3, Gp N F H F3 H3 p ∧ Same F2 F3 ∧ BkAt F3 (.ref m) (some b) :=
  ⟨_, (g.same e).frz (g.fh.free hm) hm3 (hH.free hm) (g.ne hm), Same.new (g.fh.free hm), m, rfl, upd_same⟩
theorem mk_cat {N : Addr} {F H F2 H2 : Hp} {p : Int} {x : V} {b : Bk} {ws vs : List V} {es1 es2 : List Ent} {q t l : Addr} (g : Gp N F H F2 H2 p) (hx : BkAt F2 x (some b)) (h1 : Das K F2 ws (es1.map entD)) (h2 : Das K F2 vs (es2.map entD)) (h4 : H2 q = none) (h5 : upd H2 q (.lst (ws ++ vs)) t = none)
    (h6 : upd (upd H2 q (.lst (ws ++ vs))) t (.tup [x, .ref q]) l = none) :
    ∃ F', Gp N F H F' (upd (upd (upd H2 q (.lst (ws ++ vs))) t (.tup [x, .ref q])) l (.lst [.ref t])) p ∧ F' l = some (.lst [.ref t]) ∧ MvsAt K F' [.ref t] [(some b, es1 ++ es2)] := by
  have g1 := g.newF (o := .lst (ws ++ vs)) h4
  have s1 := Same.new (o := .lst (ws ++ vs)) (g.fh.free h4)
  refine mk_mv g1 (hx.mono s1) (.lst upd_same ?_) h5 h6
  show Das K _ _ ((es1 ++ es2).map entD)
  rw [List.map_append]
  exact (h1.mono s1).app (h2.mono s1)
theorem mvW_snoc (b : Bk) (left : List Ent) : ∀ (ws : List (List Row)) (p : Int) (w : List Row), mvW b left p (ws ++ [w]) = ((mvW b left p ws).1 ++ [(some b, numb (mvW b left p ws).2 (lstR w) ++ left)], (mvW b left p ws).2 + (lstR w).length)
  | [], _, _ => rfl
  | v :: ws, p, w => by
    show ((some b, numb p (lstR v) ++ left) :: (mvW b left (p + (lstR v).length) (ws ++ [w])).1, (mvW b left (p + (lstR v).length) (ws ++ [w])).2) = _
    rw [mvW_snoc b left ws (p + (lstR v).length) w]
    rfl
theorem mvW_len (b : Bk) (left : List Ent) : ∀ (ws : List (List Row)) (p : Int), (mvW b left p ws).1.length = ws.length
  | [], _ => rfl
  | v :: ws, p => congrArg (· + 1) (mvW_len b left ws _)
theorem lstR_len {rs : List Row} (h : rs.length ≤ 4) : (lstR rs).length ≤ 4 := by
  unfold lstR
  by_cases e : stm rs = []
  · rw [if_pos e]; show 1 ≤ 4; omega
  · rw [if_neg e]
    have : (stm rs).length ≤ rs.length := List.length_filter_le _ _
    omega
theorem setS_f {st : Str4} {b : Bk} {ss : List (Str × Sm)} (h : inS st (setB b ss) = false) : setS st b ss = none := if_neg (by rw [h]; exact Bool.false_ne_true)
theorem setS_t {st : Str4} {b : Bk} {ss : List (Str × Sm)} (h : inS st (setB b ss) = true) : setS st b ss = some (setB b ss) := if_pos h
theorem ok_moves (F : FunAt K mg "_law_moves" s_l_moves) (G : Glb K mg) (c_law_set : Cal P w K mg base "_law_set" 2 ["_law_sets", "_law_book", "_law_stretches"] (spSetL K)) (c_law_true : Cal P w K mg base "_law_true" 3 ["_law_remark_here", "_law_book", "_law_todo"] (spTrue K 2))
    (c_law_list : Cal P w K mg base "_law_list" 2 ["_law_rows_here", "_law_pen"] (spList K)) : Cal P w K mg base "_law_moves" 4 ["_law_rest", "_law_number_here", "_law_book", "_law_todo", "_law_stretches", "_law_pen"] (spMoves K) := by
  refine F.cal sc_l_moves Sp6.len (fun _ _ _ _ _ _ us hl => match us, hl with | [_, _, _, _, _, _], _ => rfl) fun f cdv A outer s H vs Q E hr h => ?_
  have nd := sc_l_moves.nd
  have hu := hu_of hr
  have m_int := G.int
  refine ⟨_, (pss_cons (ps_if (pt_cmpR (op_eqD hr.units) (pv 0) (pe_lst pa_nil) (nomark _)) (pss_one (ps_ret (pe_lst pa_nil))) pss_nil)
    (pss_cons (ps_set (i := 6) nd rfl (Or.inl rfl) (pe_ix ix_tup (pe_ix ix_list (pv 0) pe_int (fun _ _ => rfl)) pe_int (fun _ _ => rfl)))
    (pss_cons (ps_set (i := 7) nd rfl (Or.inr rfl) (pe_slice sl_list (pv 0) (po_some pe_int) po_none))
    (pss_cons (ps_if (pt_cmpR op_eq (pe_ix ix_tup (pv 6) pe_int (fun _ _ => rfl)) pe_str (nomark _)) (pss_one (ps_ret (pe_lst (pa_cons (pe_tup (pa_cons (pe_cal c_law_set hr rfl (pa_cons (pe_ix ix_tup (pv 6) pe_int (fun _ _ => rfl)) (pa_cons (pv 2) (pa_cons (pv 4) pa_nil)))) (pa_cons (pv 7) pa_nil))) pa_nil)))) pss_nil)
    (pss_cons (ps_if (pt_cmpR op_eq (pe_ix ix_tup (pv 6) pe_int (fun _ _ => rfl)) pe_str (nomark _)) (pss_one (ps_ret (pe_op op_rep (pe_lst (pa_cons (pe_tup (pa_cons (pv 2) (pa_cons (pv 7) pa_nil))) pa_nil)) (pe_callTy call_int1 (by rfl) m_int (by decide +kernel) (pa_cons (pe_cal c_law_true hr rfl (pa_cons (pe_ix ix_tup (pv 6) pe_int (fun _ _ => rfl)) (pa_cons (pv 2) (pa_cons (pv 3) pa_nil)))) pa_nil))))) pss_nil)
    (pss_cons (ps_if (pt_cmpR op_eq (pe_ix ix_tup (pv 6) pe_int (fun _ _ => rfl)) pe_str (nomark _)) (pss_one (ps_ret (pe_op op_rep (pe_lst (pa_cons (pe_tup (pa_cons (pe_cal c_law_set hr rfl (pa_cons (pe_lst (pa_cons (pe_tup (pa_cons (pe_ix ix_tup (pv 6) pe_int (fun _ _ => rfl)) (pa_cons (pe_tup (pa_cons (pv 1) (pa_cons (pe_tup pa_nil) pa_nil))) pa_nil))) pa_nil)) (pa_cons (pv 2) (pa_cons (pv 4) pa_nil)))) (pa_cons (pv 7) pa_nil))) pa_nil)) (pe_callTy call_int1 (by rfl) m_int (by decide +kernel) (pa_cons (pe_cmpR op_le (pe_dget hu (pv 2) (pe_ix ix_tup (pv 6) pe_int (fun _ _ => rfl)) (fun _ _ => rfl)) pe_int (nomark _)) pa_nil))))) pss_nil)
    (pss_cons (ps_if (pt_cmpR op_eq (pe_ix ix_tup (pv 6) pe_int (fun _ _ => rfl)) pe_str (nomark _)) (pss_one (ps_ret (pe_lst (pa_cons (pe_tup (pa_cons (pe_cal c_law_set hr rfl (pa_cons (pe_lst (pa_cons (pe_tup (pa_cons (pe_ix ix_tup (pv 6) pe_int (fun _ _ => rfl)) (pa_cons (pe_tup (pa_cons pe_int (pa_cons (pe_tup pa_nil) pa_nil))) pa_nil))) pa_nil)) (pa_cons (pv 2) (pa_cons (pv 4) pa_nil)))) (pa_cons (pv 7) pa_nil))) pa_nil)))) pss_nil)
    (pss_cons (ps_if (pt_cmpR op_eq (pe_ix ix_tup (pv 6) pe_int (fun _ _ => rfl)) pe_str (nomark _)) (pss_one (ps_ret (pe_lst (pa_cons (pe_tup (pa_cons (pv 2) (pa_cons (pv 7) pa_nil))) pa_nil)))) pss_nil)
    (pss_cons (ps_if (pt_cmpR op_eq (pe_ix ix_tup (pv 6) pe_int (fun _ _ => rfl)) pe_str (nomark _)) (pss_one (ps_ret (pe_lc (own := [("_law_way", 9)]) (g := (gName 9)) (tt := tYes) rfl nd (pi_tup (pe_ix ix_tup (pv 6) pe_int (fun _ _ => rfl))) (blkOk_by (own := [("_law_way", 9)]) (N := N_l_moves) (sc := defScope s_l_moves) (by decide +kernel)) (fun _ _ _ _ _ => (pg_name (i := 9) nd rfl (Or.inl rfl))) (fun _ _ _ _ _ => pts_nil) (fun _ _ _ _ _ => (pe_tup (pa_cons (pv 2) (pa_cons (pe_op op_cat (pe_cal c_law_list hr rfl (pa_cons (pv 9) (pa_cons (pv 5) pa_nil))) (pv 7)) pa_nil))))))) pss_nil)
    (pss_cons (ps_set (i := 8) nd rfl (Or.inl rfl) (pe_cal c_law_true hr rfl (pa_cons (pe_ix ix_tup (pv 6) pe_int (fun _ _ => rfl)) (pa_cons (pv 2) (pa_cons (pv 3) pa_nil)))))
    (pss_cons (ps_if (pt_cmpR op_eq (pe_ix ix_tup (pv 6) pe_int (fun _ _ => rfl)) pe_str (nomark _)) (pss_cons (ps_if (pt_val (pv 8)) (pss_one (ps_ret (pe_lst (pa_cons (pe_tup (pa_cons (pv 2) (pa_cons (pe_op op_cat (pe_cal c_law_list hr rfl (pa_cons (pe_ix ix_tup (pv 6) pe_int (fun _ _ => rfl)) (pa_cons (pv 5) pa_nil))) (pv 0)) pa_nil))) pa_nil)))) pss_nil)
      (pss_one (ps_ret (pe_lst (pa_cons (pe_tup (pa_cons (pv 2) (pa_cons (pv 7) pa_nil))) pa_nil))))) pss_nil)
    (pss_cons (ps_if (pt_val (pv 8)) (pss_one (ps_ret (pe_lst (pa_cons (pe_tup (pa_cons (pv 2) (pa_cons (pe_op op_cat (pe_cal c_law_list hr rfl (pa_cons (pe_ix ix_tup (pv 6) pe_int (fun _ _ => rfl)) (pa_cons (pv 5) pa_nil))) (pv 7)) pa_nil))) pa_nil)))) pss_nil)
    (pss_cons (ps_if (pt_cmpR (op_eqD hr.units) (pe_ix ix_tup (pv 6) pe_int (fun _ _ => rfl)) (pe_lst pa_nil) (nomark _)) (pss_one (ps_ret (pe_lst (pa_cons (pe_tup (pa_cons (pv 2) (pa_cons (pv 7) pa_nil))) pa_nil)))) pss_nil)
    (pss_one (ps_ret (pe_lst (pa_cons (pe_tup (pa_cons (pv 2) (pa_cons (pe_op op_cat (pe_cal c_law_list hr rfl (pa_cons (pe_ix ix_tup (pv 6) pe_int (fun _ _ => rfl)) (pa_cons (pv 5) pa_nil))) (pv 7)) pa_nil))) pa_nil))))))))))))))))), ?_⟩
  obtain ⟨rest, number, book, todo, stretches, pen, rfl, F0, N, a, T, D, p, num, es, b, td, st, E0, rfl, g0, h1, hlay, hlen, hhead, rfl, rfl, ha, hbl, rfl, hT, hTN, rfl, hD, hnd, hst, en, q⟩ := h
  obtain ⟨ra, xs, rfl, hra, hxs⟩ := h1.lst_inv
  refine ⟨_, rfl, Nat.zero_le _, fun l0 hl0 => ?_⟩
  have g1 := g0.new (o := .lst []) hl0
  refine ⟨.list (es.map entD), .list [], .lst (SqL.of (g1.fh _ _ hra)) (hxs.mono g1.fh).dp, .lst (SqL.of upd_same) .nil, ents_lay hlay, rfl, _, rfl, ?_⟩
  rw [eqv_nil]
  cases es with
  | nil =>
    refine ite_b (by rfl) ?_
    refine ⟨Nat.zero_le _, fun l1 hl1 => ?_⟩
    exact q _ _ l1 [] (g1.newF (o := .lst []) hl1) upd_same .nil
  | cons e r =>
  refine ite_nb (by rfl) ?_
  obtain ⟨v0, vs, rfl, hv0, hvs⟩ := hxs.cons_inv
  obtain ⟨t, x, rfl, k1, k2⟩ := ent_at hv0
  obtain ⟨t2, us, rfl, hw⟩ := Row.at_word k2
  refine ⟨_, rfl, ra, _, 0, _, rfl, rfl, SqL.of (g1.fh _ _ hra), at0, t, _, 1, _, rfl, rfl, g1.fh.tup k1, at1, ?_⟩
  refine ⟨_, rfl, _, rfl, ra, _, rfl, SqL.of (g1.fh _ _ hra), fun lf hlf => ?_⟩
  rw [cut1]
  have g2 := g1.newF (o := .lst vs) hlf
  have s2 := Same.new (o := .lst vs) (g1.fh.free hlf)
  have f2 : Same F0 (upd (upd H l0 (.lst [])) lf (.lst vs)) := s2.trans g2.fh
  obtain ⟨pn, row⟩ := e
  have hg : RkG E0 3 row := (hhead _ _ rfl).1
  have hHH : Same H (upd (upd H l0 (.lst [])) lf (.lst vs)) := (Same.new hl0).trans (Same.new hlf)
  have hleft : Da K (upd F0 lf (.lst vs)) (.ref lf) (.list (r.map entD)) := .lst upd_same (hvs.mono s2)
  cases row with
  | set ss =>
    have hok : (Row.set ss).Ok E0 3 := hg.elim id (fun z => by cases z)
    obtain ⟨t3, u, us', et, h2, h3, h4⟩ := Row.at_set k2
    cases et
    have h2' := f2.tup h2
    refine ⟨_, rfl, t2, _, 0, _, rfl, rfl, h2', at0, rfl, _, rfl, ite_eq ?_⟩
    refine ⟨_, rfl, t2, _, 1, _, rfl, rfl, h2', at1, _, rfl, _, rfl, _, _, _, rfl, F0, b, u, a, D, us', ss, st, f2, rfl, .inr h3, h4, rfl, f2 _ _ ha, hbl, rfl, f2 _ _ hD, hnd, (fun q hq => ⟨f2 _ _ (hst q hq).1, (hst q hq).2⟩), Nat.le_trans hok.1 (by decide), (fun q hq => ⟨en.keys _ (List.mem_append_left _ (hok.2.2 q hq).1), sm_in en (hok.2.2 q hq).2.2⟩), fun ei H3 e3 => ?_, fun ei m H3 hm e3 hm3 => ?_⟩
    all_goals refine ⟨_, rfl, (by show 2 ≤ sizeLine; decide), fun t5 ht5 => ⟨(by show 1 ≤ sizeLine; decide), fun l6 hl6 => ?_⟩⟩
    · obtain ⟨F', g', hl', ms⟩ := mk_mv (m := (none, r)) (g2.same e3) rfl hleft ht5 hl6
      exact q F' _ l6 _ g' hl' (by show MvsAt K F' _ [(setS st b ss, r)]; rw [setS_f ei]; exact ms)
    · obtain ⟨F3, g3, s3, b3⟩ := mk_bk g2 hHH e3 hm hm3
      obtain ⟨F', g', hl', ms⟩ := mk_mv (m := (some (setB b ss), r)) g3 b3 (hleft.mono s3) ht5 hl6
      exact q F' _ l6 _ g' hl' (by show MvsAt K F' _ [(setS st b ss, r)]; rw [setS_t ei]; exact ms)
  | wait r0 =>
    have hok : (Row.wait r0).Ok E0 3 := hg.elim id (fun z => by cases z)
    obtain ⟨t3, x3, et, h2, h3⟩ := Row.at_wait k2
    cases et
    have h2' := f2.tup h2
    iterate 1 refine ⟨_, rfl, t2, _, 0, _, rfl, rfl, h2', at0, rfl, _, rfl, ite_ne (by decide +kernel) ?_⟩
    refine ⟨_, rfl, t2, _, 0, _, rfl, rfl, h2', at0, rfl, _, rfl, ite_eq ?_⟩
    refine ⟨_, rfl, _, rfl, (by show 2 ≤ sizeLine; decide), fun t5 ht5 => ⟨(by show 1 ≤ sizeLine; decide), fun l6 hl6 => ?_⟩⟩
    have e5 : Same (upd (upd H l0 (.lst [])) lf (.lst vs)) (upd (upd (upd (upd H l0 (.lst [])) lf (.lst vs)) t5 (.tup [.ref a, .ref lf])) l6 (.lst [.ref t5])) := (Same.new ht5).trans (Same.new hl6)
    obtain ⟨F', g', hl', ms⟩ := mk_mv (m := (some b, r)) g2 ⟨a, rfl, s2 _ _ ha⟩ hleft ht5 hl6
    refine ⟨_, rfl, t2, _, 1, _, rfl, rfl, e5.tup h2', at1, _, rfl, _, rfl, _, _, _, rfl, F0, r0, b, a, T, td, f2.trans e5, h3, rfl, e5 _ _ (f2 _ _ ha), rfl, hT.mono (Same.refl _) (fun o e => e5 _ _ (hHH _ _ e)), rk_tok en 2 r0 hok, fun H3 e3 => ?_⟩
    have g3 := g'.same e3
    have ll : H3 l6 = some (.lst [.ref t5]) := e3 _ _ upd_same
    cases ht : r0.tv b (atT td) with
    | true =>
      refine .inr ⟨_, rfl, l6, _, [.ref t5], rfl, rfl, ll, by decide, by decide, by show 1 * 1 ≤ sizeLine; decide, fun l7 hl7 => ?_⟩
      refine q (upd F' l7 (.lst [.ref t5])) _ l7 [.ref t5] ?_ upd_same ?_
      · show Gp N F0 H _ _ p
        exact g3.newF (o := .lst [.ref t5]) hl7
      · show MvsAt K _ _ (if r0.tv b (atT td) = true then [(some b, r)] else [])
        rw [if_pos ht]
        exact ms.mono (Same.new (g3.fh.free hl7))
    | false =>
      refine .inr ⟨_, rfl, l6, _, [.ref t5], rfl, rfl, ll, by decide, by decide, Nat.zero_le _, fun l7 hl7 => ?_⟩
      refine q (upd F' l7 (.lst [])) _ l7 [] ?_ upd_same ?_
      · show Gp N F0 H _ _ p
        exact g3.newF (o := .lst []) hl7
      · show MvsAt K _ _ (if r0.tv b (atT td) = true then [(some b, r)] else [])
        rw [if_neg (by rw [ht]; exact Bool.false_ne_true)]
        exact .nil
  | take l =>
    have hok : (Row.take l).Ok E0 3 := hg.elim id (fun z => by cases z)
    obtain ⟨t3, et, h2⟩ := Row.at_take k2
    cases et
    have h2' := f2.tup h2
    iterate 2 refine ⟨_, rfl, t2, _, 0, _, rfl, rfl, h2', at0, rfl, _, rfl, ite_ne (by decide +kernel) ?_⟩
    refine ⟨_, rfl, t2, _, 0, _, rfl, rfl, h2', at0, rfl, _, rfl, ite_eq ?_⟩
    have fin : ∀ (o : Option Bk) (F' H4 : Hp) (t5 l6 : Addr), Gp N F0 H F' H4 p → F' l6 = some (.lst [.ref t5]) → MvsAt K F' [.ref t5] [(o, r)] → o = setS st b [(l, ⟨num, []⟩)] → ∀ (l7 : Addr) (zs : List V), H4 l7 = none → zs = (List.replicate (if decide (lk b l ≤ 0) = true then (1 : Int) else 0).toNat [V.ref t5]).flatten → Q (.ref l7) (upd H4 l7 (.lst zs)) := fun o F' H4 t5 l6 g' hl' ms eo l7 zs h7 ez => by
      have ex : (mv num b (atT td) st p ((pn, .take l) :: r)) = (if lk b l ≤ 0 then [(setS st b [(l, ⟨num, []⟩)], r)] else [], p) := rfl
      refine q (upd F' l7 (.lst zs)) _ l7 zs ?_ upd_same ?_
      · rw [ex]
        exact g'.newF (o := .lst zs) h7
      · rw [ex]
        by_cases hz : lk b l ≤ 0
        · rw [if_pos (decide_eq_true hz)] at ez
          rw [if_pos hz, ez, ← eo]
          exact ms.mono (Same.new (g'.fh.free h7))
        · rw [if_neg (by rw [decide_eq_false hz]; exact Bool.false_ne_true)] at ez
          rw [if_neg hz, ez]
          exact .nil
    have kb : -(2 ^ 63) ≤ (if decide (lk b l ≤ 0) = true then (1 : Int) else 0) ∧ (if decide (lk b l ≤ 0) = true then (1 : Int) else 0) < 2 ^ 63 ∧ ∀ t5 : Addr, ([V.ref t5] : List V).length * (if decide (lk b l ≤ 0) = true then (1 : Int) else 0).toNat ≤ sizeLine := by
      by_cases e : decide (lk b l ≤ 0) = true
      · rw [if_pos e]; exact ⟨by decide, by decide, fun _ => by show 1 * 1 ≤ sizeLine; decide⟩
      · rw [if_neg e]; exact ⟨by decide, by decide, fun _ => Nat.zero_le _⟩
    have dg : ∀ {H4 : Hp}, Same H H4 → DGet H4 a (.str l) (some (.int (lk b l))) := fun {H4} e => by
      have z := DGet.k (k := .inr l) (e _ _ (g0.fh _ _ ha))
      rw [get_bk (en.keys _ (List.mem_append_right _ hok.1))] at z
      exact z
    refine ⟨_, rfl, t2, _, 1, _, rfl, rfl, h2', at1, _, rfl, Nat.zero_le _, fun u1 hu1 => ⟨(by show 2 ≤ sizeLine; decide), fun u2 hu2 => ⟨(by show 2 ≤ sizeLine; decide), fun u3 hu3 => ⟨(by show 1 ≤ sizeLine; decide), fun u4 hu4 => ?_⟩⟩⟩⟩
    have g3 := g2.newF (o := .tup []) hu1
    have s3 := Same.new (o := .tup []) (g2.fh.free hu1)
    have g4 := g3.newF (o := .tup [.int num, .ref u1]) hu2
    have s4 := Same.new (o := .tup [.int num, .ref u1]) (g3.fh.free hu2)
    have g5 := g4.newF (o := .tup [.str l, .ref u2]) hu3
    have s5 := Same.new (o := .tup [.str l, .ref u2]) (g4.fh.free hu3)
    have g6 := g5.newF (o := .lst [.ref u3]) hu4
    have s6 := Same.new (o := .lst [.ref u3]) (g5.fh.free hu4)
    have s36 := (s3.trans s4).trans (s5.trans s6)
    have f6 := (s2.trans s36).trans g6.fh
    have h6 := (((hHH.trans (Same.new (o := .tup []) hu1)).trans (Same.new (o := .tup [.int num, .ref u1]) hu2)).trans (Same.new (o := .tup [.str l, .ref u2]) hu3)).trans (Same.new (o := .lst [.ref u3]) hu4)
    refine ⟨_, rfl, _, rfl, _, _, _, rfl, _, b, u4, a, D, [.ref u3], [(l, ⟨num, []⟩)], st, g6.fh, rfl, .inl upd_same, .cons (.tup (s6.tup (SqT.of upd_same)) (.cons (.str _) (.cons (.tup ((s5.trans s6).tup (SqT.of upd_same)) (.cons (.int _) (.cons (.tup ((s4.trans (s5.trans s6)).tup (SqT.of upd_same)) .nil) .nil))) .nil))) .nil, rfl, f6 _ _ ha, hbl, rfl, f6 _ _ hD, hnd, (fun q hq => ⟨f6 _ _ (hst q hq).1, (hst q hq).2⟩), (by show 1 ≤ 100; decide), (fun q hq => by rw [List.mem_singleton.mp hq]; exact ⟨en.keys _ (List.mem_append_right _ hok.1), fun _ z => nomatch z⟩), fun ei H3 e3 => ?_, fun ei m H3 hm e3 hm3 => ?_⟩
    all_goals refine ⟨_, rfl, (by show 2 ≤ sizeLine; decide), fun t5 ht5 => ⟨(by show 1 ≤ sizeLine; decide), fun l6 hl6 => ?_⟩⟩
    · obtain ⟨F', g', hl', ms⟩ := mk_mv (m := (none, r)) (g6.same e3) rfl (hleft.mono s36) ht5 hl6
      rw [← setS_f ei] at ms
      have e5 := ((h6.trans e3).trans (Same.new (o := .tup [.non, .ref lf]) ht5)).trans (Same.new (o := .lst [.ref t5]) hl6)
      have ll := g'.fh _ _ hl'
      refine ⟨_, rfl, _, rfl, t2, _, 1, _, rfl, rfl, (g0.fh.trans e5).tup h2, at1, a, _, rfl, dg e5, _, _, rfl, rfl, .inr ⟨_, rfl, l6, _, [.ref t5], rfl, rfl, ll, kb.1, kb.2.1, kb.2.2 t5, fun l7 hl7 => fin _ _ _ _ _ g' hl' ms rfl l7 _ hl7 rfl⟩⟩
    · obtain ⟨F3, g7, s7, b3⟩ := mk_bk g6 h6 e3 hm hm3
      obtain ⟨F', g', hl', ms⟩ := mk_mv (m := (some (setB b [(l, ⟨num, []⟩)]), r)) g7 b3 (hleft.mono (s36.trans s7)) ht5 hl6
      rw [← setS_t ei] at ms
      have e5 := ((h6.trans e3).trans (Same.new (o := .tup [.ref m, .ref lf]) ht5)).trans (Same.new (o := .lst [.ref t5]) hl6)
      have ll := g'.fh _ _ hl'
      refine ⟨_, rfl, _, rfl, t2, _, 1, _, rfl, rfl, (g0.fh.trans e5).tup h2, at1, a, _, rfl, dg e5, _, _, rfl, rfl, .inr ⟨_, rfl, l6, _, [.ref t5], rfl, rfl, ll, kb.1, kb.2.1, kb.2.2 t5, fun l7 hl7 => fin _ _ _ _ _ g' hl' ms rfl l7 _ hl7 rfl⟩⟩
  | give l =>
    have hok : (Row.give l).Ok E0 3 := hg.elim id (fun z => by cases z)
    obtain ⟨t3, et, h2⟩ := Row.at_give k2
    cases et
    have h2' := f2.tup h2
    iterate 3 refine ⟨_, rfl, t2, _, 0, _, rfl, rfl, h2', at0, rfl, _, rfl, ite_ne (by decide +kernel) ?_⟩
    refine ⟨_, rfl, t2, _, 0, _, rfl, rfl, h2', at0, rfl, _, rfl, ite_eq ?_⟩
    refine ⟨_, rfl, t2, _, 1, _, rfl, rfl, h2', at1, Nat.zero_le _, fun u1 hu1 => ⟨(by show 2 ≤ sizeLine; decide), fun u2 hu2 => ⟨(by show 2 ≤ sizeLine; decide), fun u3 hu3 => ⟨(by show 1 ≤ sizeLine; decide), fun u4 hu4 => ?_⟩⟩⟩⟩
    have g3 := g2.newF (o := .tup []) hu1
    have s3 := Same.new (o := .tup []) (g2.fh.free hu1)
    have g4 := g3.newF (o := .tup [.int 0, .ref u1]) hu2
    have s4 := Same.new (o := .tup [.int 0, .ref u1]) (g3.fh.free hu2)
    have g5 := g4.newF (o := .tup [.str l, .ref u2]) hu3
    have s5 := Same.new (o := .tup [.str l, .ref u2]) (g4.fh.free hu3)
    have g6 := g5.newF (o := .lst [.ref u3]) hu4
    have s6 := Same.new (o := .lst [.ref u3]) (g5.fh.free hu4)
    have s36 := (s3.trans s4).trans (s5.trans s6)
    have f6 := (s2.trans s36).trans g6.fh
    have h6 := (((hHH.trans (Same.new (o := .tup []) hu1)).trans (Same.new (o := .tup [.int 0, .ref u1]) hu2)).trans (Same.new (o := .tup [.str l, .ref u2]) hu3)).trans (Same.new (o := .lst [.ref u3]) hu4)
    refine ⟨_, rfl, _, rfl, _, _, _, rfl, _, b, u4, a, D, [.ref u3], [(l, ⟨0, []⟩)], st, g6.fh, rfl, .inl upd_same, .cons (.tup (s6.tup (SqT.of upd_same)) (.cons (.str _) (.cons (.tup ((s5.trans s6).tup (SqT.of upd_same)) (.cons (.int _) (.cons (.tup ((s4.trans (s5.trans s6)).tup (SqT.of upd_same)) .nil) .nil))) .nil))) .nil, rfl, f6 _ _ ha, hbl, rfl, f6 _ _ hD, hnd, (fun q hq => ⟨f6 _ _ (hst q hq).1, (hst q hq).2⟩), (by show 1 ≤ 100; decide), (fun q hq => by rw [List.mem_singleton.mp hq]; exact ⟨en.keys _ (List.mem_append_right _ hok.1), fun _ z => nomatch z⟩), fun ei H3 e3 => ?_, fun ei m H3 hm e3 hm3 => ?_⟩
    all_goals refine ⟨_, rfl, (by show 2 ≤ sizeLine; decide), fun t5 ht5 => ⟨(by show 1 ≤ sizeLine; decide), fun l6 hl6 => ?_⟩⟩
    · obtain ⟨F', g', hl', ms⟩ := mk_mv (m := (none, r)) (g6.same e3) rfl (hleft.mono s36) ht5 hl6
      rw [← setS_f ei] at ms
      have e5 := ((h6.trans e3).trans (Same.new (o := .tup [.non, .ref lf]) ht5)).trans (Same.new (o := .lst [.ref t5]) hl6)
      exact q F' _ l6 _ g' hl' ms
    · obtain ⟨F3, g7, s7, b3⟩ := mk_bk g6 h6 e3 hm hm3
      obtain ⟨F', g', hl', ms⟩ := mk_mv (m := (some (setB b [(l, ⟨0, []⟩)]), r)) g7 b3 (hleft.mono (s36.trans s7)) ht5 hl6
      rw [← setS_t ei] at ms
      have e5 := ((h6.trans e3).trans (Same.new (o := .tup [.ref m, .ref lf]) ht5)).trans (Same.new (o := .lst [.ref t5]) hl6)
      exact q F' _ l6 _ g' hl' ms
  | skip =>
    have h2' : SqT K _ t2 (.str "skip" :: us) := f2.tup hw
    iterate 4 refine ⟨_, rfl, t2, _, 0, _, rfl, rfl, h2', at0, rfl, _, rfl, ite_ne (by decide +kernel) ?_⟩
    refine ⟨_, rfl, t2, _, 0, _, rfl, rfl, h2', at0, rfl, _, rfl, ite_eq ?_⟩
    refine ⟨_, rfl, _, rfl, (by show 2 ≤ sizeLine; decide), fun t5 ht5 => ⟨(by show 1 ≤ sizeLine; decide), fun l6 hl6 => ?_⟩⟩
    obtain ⟨F', g', hl', ms⟩ := mk_mv (m := (some b, r)) g2 ⟨a, rfl, s2 _ _ ha⟩ hleft ht5 hl6
    exact q F' _ l6 _ g' hl' ms
  | either ws =>
    have hok : (Row.either ws).Ok E0 3 := hg.elim id (fun z => by cases z)
    obtain ⟨t3, u, xs, et, h2, h3, h4⟩ := Row.at_either k2
    have hwl := hok.2.1
    cases et
    have h2' := f2.tup h2
    iterate 5 refine ⟨_, rfl, t2, _, 0, _, rfl, rfl, h2', at0, rfl, _, rfl, ite_ne (by decide +kernel) ?_⟩
    refine ⟨_, rfl, t2, _, 0, _, rfl, rfl, h2', at0, rfl, _, rfl, ite_eq ?_⟩
    refine ⟨_, rfl, t2, _, 1, _, rfl, rfl, h2', at1, u, rfl, ⟨_, f2.tup h3⟩, fun L hL => lc_tup (K := K) (a := u) (xs := xs)
      (fun i H' => ∃ (F' : Hp) (acc : List V), Gp N F0 H F' H' (mvW b r p (ws.take i)).2 ∧ Same (upd F0 lf (.lst vs)) F' ∧ F' L = none ∧ H' L = some (.lst acc) ∧ MvsAt K F' acc (mvW b r p (ws.take i)).1) ⟨_, [], g2.new hL, Same.refl _, g2.fh.free hL, upd_same, .nil⟩ (fun i H' _ ⟨F', acc, g, sF, _⟩ => g.fh.tup (sF.tup (s2.tup h3))) ?_ ?_⟩
    · rintro i v H' hi ⟨F', acc, g, sF, nL, hL', da⟩
      obtain ⟨w, hw', hv⟩ := h4.getM hi
      have hil := (List.getElem?_eq_some_iff.mp hw').1
      have hwok := hok.2.2 w (List.mem_of_getElem? hw')
      refine ⟨rfl, _, rfl, _, rfl, _, rfl, _, _, rfl, F', N, _, w, rfl, g.sub, hv.mono (s2.trans sF), by omega, fun x hx => rkg_lay (n := 2) (by omega) (.inl (hwok.2 x (mem_stm hx).1)), fun F4 H4 v4 g4 d4 => ?_⟩
      obtain ⟨c2, cs, rfl, hc2, hcs⟩ := d4.lst_inv
      have lcs := hcs.lenM
      rw [numb_len] at lcs
      have := lstR_len hwok.1
      have lvs : vs.length = r.length := hvs.lenM
      have len2 : r.length + 1 ≤ 100000 := hlen
      have g5 := g.trans g4
      refine ⟨_, rfl, c2, lf, cs, vs, rfl, rfl, g4.fh _ _ hc2, g4.fh _ _ (g4.ff _ _ (sF _ _ upd_same)), by rw [sizeLine_eq]; omega, fun q3 hq3 => ⟨(by show 2 ≤ sizeLine; decide), fun t5 ht5 => ?_⟩⟩
      have hL4 : H4 L = some (.lst acc) := g4.gr.kp _ _ hL' (g2.ne hL)
      have nL4 : F4 L = none := g4.gr.non hL' nL
      have g6 := g5.newF (o := .lst (cs ++ vs)) hq3
      have s6 := Same.new (o := .lst (cs ++ vs)) (g5.fh.free hq3)
      have hL6 := Same.new (o := .lst (cs ++ vs)) hq3 _ _ hL4
      have Lq : L ≠ q3 := ne_of_none hL4 hq3
      have g7 := g6.newF (o := .tup [.ref a, .ref q3]) ht5
      have s7 := Same.new (o := .tup [.ref a, .ref q3]) (g6.fh.free ht5)
      have hL7 := Same.new (o := .tup [.ref a, .ref q3]) ht5 _ _ hL6
      have Lt : L ≠ t5 := ne_of_none hL6 ht5
      have nL7 : upd (upd F4 q3 (.lst (cs ++ vs))) t5 (.tup [.ref a, .ref q3]) L = none := by rw [upd_ne Lt, upd_ne Lq]; exact nL4
      have htk : ws.take (i + 1) = ws.take i ++ [w] := by rw [List.take_succ, hw']; rfl
      have lacc := da.length
      have mvl : (mvW b r p (ws.take i)).1.length = i := by
        rw [mvW_len, List.length_take]
        omega
      refine ⟨acc, hL7, by rw [sizeLine_eq]; omega, _, acc ++ [.ref t5], by rw [htk, mvW_snoc]; exact g7.set (o := .lst (acc ++ [.ref t5])) nL7 hL7 (hHH.free hL) (g2.ne hL), ((sF.trans g4.ff).trans s6).trans s7, nL7, upd_same, ?_⟩
      rw [htk, mvW_snoc]
      refine (da.mono ((g4.ff.trans s6).trans s7)).snoc (m := (some b, numb (mvW b r p (ws.take i)).2 (lstR w) ++ r)) ⟨t5, _, _, rfl, SqT.of upd_same, ⟨a, rfl, s7 _ _ (s6 _ _ (g4.ff _ _ (sF _ _ (s2 _ _ ha))))⟩, .lst (s7 _ _ upd_same) ?_⟩
      show Das K _ _ ((numb _ (lstR w) ++ r).map entD)
      rw [List.map_append]
      exact (hcs.mono (s6.trans s7)).app (hvs.mono ((((s2.trans sF).trans g4.ff).trans s6).trans s7))
    · rintro H' ⟨F', acc, g, sF, nL, hL', da⟩
      rw [h4.lenM, List.take_length] at g da
      exact q _ _ _ _ (g.frz nL hL' (hHH.free hL) (g2.ne hL)) upd_same (da.mono (Same.new nL))
  | whl r0 ra0 =>
    have hok : (Row.whl r0 ra0).Ok E0 3 := hg.elim id (fun z => by cases z)
    obtain ⟨t3, x3, y3, et, h2, h3, h4⟩ := Row.at_whl k2
    cases et
    have h2' := f2.tup h2
    iterate 6 refine ⟨_, rfl, t2, _, 0, _, rfl, rfl, h2', at0, rfl, _, rfl, ite_ne (by decide +kernel) ?_⟩
    refine ⟨_, rfl, t2, _, 1, _, rfl, rfl, h2', at1, _, rfl, _, rfl, _, _, _, rfl, F0, r0, b, a, T, td, f2, h3, rfl, f2 _ _ ha, rfl, hT.mono (Same.refl _) (fun o e => hHH _ _ e), rk_tok en 2 r0 hok.1, fun H3 e3 => ?_⟩
    have g3 := g2.same e3
    have h2'' := e3.tup h2'
    refine ⟨_, rfl, t2, _, 0, _, rfl, rfl, h2'', at0, rfl, _, rfl, ite_eq ?_⟩
    have lxs : (V.ref t :: vs).length = r.length + 1 := congrArg (· + 1) hvs.lenM
    have l4 := hok.2.1
    have len2 : r.length + 1 ≤ 100000 := hlen
    refine ⟨_, rfl, _, rfl, ?_⟩
    cases ht : r0.tv b (atT td) with
    | true =>
      refine ite_b (by rfl) ?_
      refine ⟨_, rfl, _, rfl, t2, _, 2, _, rfl, rfl, h2'', rfl, _, rfl, _, _, rfl, _, N, p, ra0, rfl, g3.sub, (h4).mono s2, (by omega), fun x hx => rkg_lay (n := 2) (by omega) (.inl (hok.2.2 x (mem_stm hx).1)), fun F4 H4 v4 g4 d4 => ?_⟩
      obtain ⟨c2, cs, rfl, hc2, hcs⟩ := d4.lst_inv
      have lcs := hcs.lenM
      rw [numb_len] at lcs
      have := lstR_len (rs := ra0) (by omega)
      refine ⟨_, rfl, c2, ra, cs, (.ref t :: vs), rfl, rfl, g4.fh _ _ hc2, g4.fh _ _ (g4.ff _ _ (s2 _ _ hra)), by rw [sizeLine_eq]; first | omega | (rw [List.length_cons]; omega), fun q3 hq3 => ⟨(by show 2 ≤ sizeLine; decide), fun t5 ht5 => ⟨(by show 1 ≤ sizeLine; decide), fun l6 hl6 => ?_⟩⟩⟩
      obtain ⟨F', g', hl', ms⟩ := mk_cat (b := b) (es2 := (pn, .whl r0 ra0) :: r) (g3.trans g4) ⟨a, rfl, g4.ff _ _ (s2 _ _ ha)⟩ hcs ((hxs.mono s2).mono g4.ff) hq3 ht5 hl6
      refine q F' _ l6 _ ?_ hl' ?_
      · show Gp N F0 H F' _ (if r0.tv b (atT td) = true then ([(some b, numb p (lstR ra0) ++ ((pn, .whl r0 ra0) :: r))], p + (lstR ra0).length) else ([(some b, r)], p)).2
        rw [if_pos ht]
        exact g'
      · show MvsAt K F' _ (if r0.tv b (atT td) = true then ([(some b, numb p (lstR ra0) ++ ((pn, .whl r0 ra0) :: r))], p + (lstR ra0).length) else ([(some b, r)], p)).1
        rw [if_pos ht]
        exact ms
    | false =>
      refine ite_nb (by rfl) ?_
      refine ⟨_, rfl, _, rfl, (by show 2 ≤ sizeLine; decide), fun t5 ht5 => ⟨(by show 1 ≤ sizeLine; decide), fun l6 hl6 => ?_⟩⟩
      obtain ⟨F', g', hl', ms⟩ := mk_mv (m := (some b, r)) g3 ⟨a, rfl, s2 _ _ ha⟩ hleft ht5 hl6
      refine q F' _ l6 _ ?_ hl' ?_
      · show Gp N F0 H F' _ (if r0.tv b (atT td) = true then ([(some b, numb p (lstR ra0) ++ ((pn, .whl r0 ra0) :: r))], p + (lstR ra0).length) else ([(some b, r)], p)).2
        rw [if_neg (by rw [ht]; exact Bool.false_ne_true)]
        exact g'
      · show MvsAt K F' _ (if r0.tv b (atT td) = true then ([(some b, numb p (lstR ra0) ++ ((pn, .whl r0 ra0) :: r))], p + (lstR ra0).length) else ([(some b, r)], p)).1
        rw [if_neg (by rw [ht]; exact Bool.false_ne_true)]
        exact ms
  | iff r0 ra0 rc0 =>
    have hok : (Row.iff r0 ra0 rc0).Ok E0 3 := hg.elim id (fun z => by cases z)
    obtain ⟨t3, x3, y3, z3, et, h2, h3, h4, h5⟩ := Row.at_iff k2
    cases et
    have h2' := f2.tup h2
    iterate 6 refine ⟨_, rfl, t2, _, 0, _, rfl, rfl, h2', at0, rfl, _, rfl, ite_ne (by decide +kernel) ?_⟩
    refine ⟨_, rfl, t2, _, 1, _, rfl, rfl, h2', at1, _, rfl, _, rfl, _, _, _, rfl, F0, r0, b, a, T, td, f2, h3, rfl, f2 _ _ ha, rfl, hT.mono (Same.refl _) (fun o e => hHH _ _ e), rk_tok en 2 r0 hok.1, fun H3 e3 => ?_⟩
    have g3 := g2.same e3
    have h2'' := e3.tup h2'
    refine ⟨_, rfl, t2, _, 0, _, rfl, rfl, h2'', at0, rfl, _, rfl, ite_ne (by decide +kernel) ?_⟩
    have lvs : vs.length = r.length := hvs.lenM
    have l4 := hok.2.1
    have l5 := hok.2.2.2.1
    have len2 : r.length + 1 ≤ 100000 := hlen
    refine ⟨_, rfl, _, rfl, ?_⟩
    cases ht : r0.tv b (atT td) with
    | true =>
      refine ite_b (by rfl) ?_
      refine ⟨_, rfl, _, rfl, t2, _, 2, _, rfl, rfl, h2'', rfl, _, rfl, _, _, rfl, _, N, p, ra0, rfl, g3.sub, (h4).mono s2, (by omega), fun x hx => rkg_lay (n := 2) (by omega) (.inl (hok.2.2.1 x (mem_stm hx).1)), fun F4 H4 v4 g4 d4 => ?_⟩
      obtain ⟨c2, cs, rfl, hc2, hcs⟩ := d4.lst_inv
      have lcs := hcs.lenM
      rw [numb_len] at lcs
      have := lstR_len (rs := ra0) (by omega)
      refine ⟨_, rfl, c2, lf, cs, vs, rfl, rfl, g4.fh _ _ hc2, g4.fh _ _ (g4.ff _ _ upd_same), by rw [sizeLine_eq]; first | omega | (rw [List.length_cons]; omega), fun q3 hq3 => ⟨(by show 2 ≤ sizeLine; decide), fun t5 ht5 => ⟨(by show 1 ≤ sizeLine; decide), fun l6 hl6 => ?_⟩⟩⟩
      obtain ⟨F', g', hl', ms⟩ := mk_cat (b := b) (es2 := r) (g3.trans g4) ⟨a, rfl, g4.ff _ _ (s2 _ _ ha)⟩ hcs ((hvs.mono s2).mono g4.ff) hq3 ht5 hl6
      refine q F' _ l6 _ ?_ hl' ?_
      · show Gp N F0 H F' _ (if r0.tv b (atT td) = true then ([(some b, numb p (lstR ra0) ++ r)], p + (lstR ra0).length) else if rc0 = [] then ([(some b, r)], p) else ([(some b, numb p (lstR rc0) ++ r)], p + (lstR rc0).length) : List Mv × Int).2
        rw [if_pos ht]
        exact g'
      · show MvsAt K F' _ (if r0.tv b (atT td) = true then ([(some b, numb p (lstR ra0) ++ r)], p + (lstR ra0).length) else if rc0 = [] then ([(some b, r)], p) else ([(some b, numb p (lstR rc0) ++ r)], p + (lstR rc0).length) : List Mv × Int).1
        rw [if_pos ht]
        exact ms
    | false =>
      refine ite_nb (by rfl) ?_
      obtain ⟨zb, zs, rfl, hzb, hzs⟩ := h5.lst_inv
      refine ⟨_, rfl, t2, _, 3, _, rfl, rfl, h2'', rfl, Nat.zero_le _, fun l9 hl9 => ?_⟩
      have g9 := g3.new (o := .lst []) hl9
      refine ⟨.list (rc0.map Row.d), .list [], .lst (SqL.of (g9.fh _ _ (s2 _ _ hzb))) ((hzs.mono (s2.trans g9.fh)).dp), .lst (SqL.of upd_same) .nil, (lay_lst (lay_m fun x hx => Row.lay 2 x (hok.2.2.2.2 x hx))).shaped (by decide : 15 ≤ 64), rfl, _, rfl, ?_⟩
      rw [eqv_nil]
      by_cases hc : rc0 = []
      · refine ite_b (by rw [hc]; rfl) ?_
        refine ⟨_, rfl, _, rfl, (by show 2 ≤ sizeLine; decide), fun t5 ht5 => ⟨(by show 1 ≤ sizeLine; decide), fun l6 hl6 => ?_⟩⟩
        obtain ⟨F', g', hl', ms⟩ := mk_mv (m := (some b, r)) g9 ⟨a, rfl, s2 _ _ ha⟩ hleft ht5 hl6
        refine q F' _ l6 _ ?_ hl' ?_
        · show Gp N F0 H F' _ (if r0.tv b (atT td) = true then ([(some b, numb p (lstR ra0) ++ r)], p + (lstR ra0).length) else if rc0 = [] then ([(some b, r)], p) else ([(some b, numb p (lstR rc0) ++ r)], p + (lstR rc0).length) : List Mv × Int).2
          rw [if_neg (by rw [ht]; exact Bool.false_ne_true), if_pos hc]
          exact g'
        · show MvsAt K F' _ (if r0.tv b (atT td) = true then ([(some b, numb p (lstR ra0) ++ r)], p + (lstR ra0).length) else if rc0 = [] then ([(some b, r)], p) else ([(some b, numb p (lstR rc0) ++ r)], p + (lstR rc0).length) : List Mv × Int).1
          rw [if_neg (by rw [ht]; exact Bool.false_ne_true), if_pos hc]
          exact ms
      · refine ite_nb (by cases rc0 <;> first | rfl | exact absurd rfl hc) ?_
        refine ⟨_, rfl, _, rfl, t2, _, 3, _, rfl, rfl, ((Same.new (o := .lst []) hl9).tup h2''), rfl, _, rfl, _, _, rfl, _, N, p, rc0, rfl, g9.sub, ((Da.lst hzb hzs : Da K F0 _ (rd rc0))).mono s2, (by omega), fun x hx => rkg_lay (n := 2) (by omega) (.inl (hok.2.2.2.2 x (mem_stm hx).1)), fun F4 H4 v4 g4 d4 => ?_⟩
        obtain ⟨c2, cs, rfl, hc2, hcs⟩ := d4.lst_inv
        have lcs := hcs.lenM
        rw [numb_len] at lcs
        have := lstR_len (rs := rc0) (by omega)
        refine ⟨_, rfl, c2, lf, cs, vs, rfl, rfl, g4.fh _ _ hc2, g4.fh _ _ (g4.ff _ _ upd_same), by rw [sizeLine_eq]; first | omega | (rw [List.length_cons]; omega), fun q3 hq3 => ⟨(by show 2 ≤ sizeLine; decide), fun t5 ht5 => ⟨(by show 1 ≤ sizeLine; decide), fun l6 hl6 => ?_⟩⟩⟩
        obtain ⟨F', g', hl', ms⟩ := mk_cat (b := b) (es2 := r) (g9.trans g4) ⟨a, rfl, g4.ff _ _ (s2 _ _ ha)⟩ hcs ((hvs.mono s2).mono g4.ff) hq3 ht5 hl6
        refine q F' _ l6 _ ?_ hl' ?_
        · show Gp N F0 H F' _ (if r0.tv b (atT td) = true then ([(some b, numb p (lstR ra0) ++ r)], p + (lstR ra0).length) else if rc0 = [] then ([(some b, r)], p) else ([(some b, numb p (lstR rc0) ++ r)], p + (lstR rc0).length) : List Mv × Int).2
          rw [if_neg (by rw [ht]; exact Bool.false_ne_true), if_neg hc]
          exact g'
        · show MvsAt K F' _ (if r0.tv b (atT td) = true then ([(some b, numb p (lstR ra0) ++ r)], p + (lstR ra0).length) else if rc0 = [] then ([(some b, r)], p) else ([(some b, numb p (lstR rc0) ++ r)], p + (lstR rc0).length) : List Mv × Int).1
          rw [if_neg (by rw [ht]; exact Bool.false_ne_true), if_neg hc]
          exact ms
  | rounds k0 a0 => exact absurd (hhead _ _ rfl).2.2 (fun z => nomatch z)
  | label l0 => exact absurd (hhead _ _ rfl).2.1 (fun z => nomatch z)
  | say r0 => exact absurd (hhead _ _ rfl).2.1 (fun z => nomatch z)
end
end Ca
namespace Ca
open PySem L2
/-! ## where the steps of rows begin, and what they are -/
theorem rk_up {N Hs : List Str} : ∀ (n : Nat) (r : Rk), r.Ok N Hs n → r.Ok N Hs (n + 1)
  | 0, _, h => h.elim
  | n + 1, .most s, h => h
  | n + 1, .rest s m, h => h
  | n + 1, .at _ _, h => h
  | n + 1, .not r, h => rk_up n r h
  | n + 1, .and rs, h => ⟨h.1, fun r hr => rk_up n r (h.2 r hr)⟩
  | n + 1, .or rs, h => ⟨h.1, fun r hr => rk_up n r (h.2 r hr)⟩
theorem row_up {E : En} : ∀ (n : Nat) (r : Row), r.Ok E n → r.Ok E (n + 1)
  | 0, _, h => h.elim
  | n + 1, .set ss, h => h
  | n + 1, .wait r, h => h
  | n + 1, .take l, h => h
  | n + 1, .give l, h => h
  | n + 1, .iff r a b, h => ⟨h.1, h.2.1, fun x hx => row_up n x (h.2.2.1 x hx), h.2.2.2.1, fun x hx => row_up n x (h.2.2.2.2 x hx)⟩
  | n + 1, .whl r a, h => ⟨h.1, h.2.1, fun x hx => row_up n x (h.2.2 x hx)⟩
  | n + 1, .rounds k a, h => ⟨h.1, h.2.1, h.2.2.1, fun x hx => row_up n x (h.2.2.2 x hx)⟩
  | n + 1, .either ws, h => ⟨h.1, h.2.1, fun w hw => ⟨(h.2.2 w hw).1, fun x hx => row_up n x ((h.2.2 w hw).2 x hx)⟩⟩
  | n + 1, .say r, h => h
  | n + 1, .label l, h => h
  | n + 1, .skip, h => h
theorem row_le {E : En} {r : Row} {n : Nat} (h : r.Ok E n) : ∀ {m : Nat}, n ≤ m → r.Ok E m
  | m, e => by
    induction m with
    | zero =>
      have : n = 0 := by omega
      rw [this] at h
      exact h
    | succ m ih =>
      by_cases e2 : n = m + 1
      · rw [← e2]; exact h
      · exact row_up m r (ih (by omega))
structure StIn (E : En) (h : Str) (X : Int → Prop) (s : Stp) : Prop where
  hand : s.hand = h
  frm : X s.frm
  guard : s.guard.Ok (E.mine ++ E.locks) E.hands 3
  sets : s.sets.length ≤ 10 ∧ ∀ q ∈ s.sets, q.1 ∈ E.mine ++ E.locks ∧ q.2.Ok (E.mine ++ E.locks)
theorem StIn.mono {E : En} {h : Str} {X Y : Int → Prop} {s : Stp} (a : StIn E h X s) (e : ∀ x, X x → Y x) : StIn E h Y s := ⟨a.hand, e _ a.frm, a.guard, a.sets⟩
def Xr (p m m' x : Int) : Prop := x = p ∨ (m ≤ x ∧ x < m')
def SI (E : En) (h : Str) (S : SRel) (r : Row) : Prop := ∀ p q m st m', S r p q m st m' → m ≤ m' ∧ ∀ s ∈ st, StIn E h (Xr p m m') s
theorem app_in {E : En} {h : Str} {X : Int → Prop} {a b : List Stp} (ha : ∀ s ∈ a, StIn E h X s) (hb : ∀ s ∈ b, StIn E h X s) : ∀ s ∈ a ++ b, StIn E h X s := fun s hs => (List.mem_append.mp hs).elim (ha s) (hb s)
theorem layC_nil {S : SRel} : ∀ {rs : List Row} {p q m : Int} {st : List Stp} {lb : List (Str × Int)} {m' : Int}, stm rs = [] → LayC S rs p q m st lb m' → st = [] ∧ m' = m
  | [], _, _, _, _, _, _, _, h => ⟨h.1, h.2.2⟩
  | r :: rs, p, q, m, st, lb, m', e, h => by
    unfold LayC at h
    by_cases hm : r.mark = true
    · rw [if_pos hm] at h
      obtain ⟨lb', h1, h2⟩ := h
      rw [stm_mark hm] at e
      exact layC_nil e h2
    · rw [stm_cons (by cases z : r.mark with | true => exact absurd z hm | false => rfl)] at e
      cases e
section
variable {E : En} {h : Str} {S : SRel}
theorem layC_in : ∀ {rs : List Row} {p q m : Int} {st : List Stp} {lb : List (Str × Int)} {m' : Int}, (∀ x ∈ rs, x.mark = false → SI E h S x) → LayC S rs p q m st lb m' → m ≤ m' ∧ ∀ s ∈ st, StIn E h (Xr p m m') s
  | [], _, _, _, _, _, _, _, k => by
    rw [k.1, k.2.2]
    exact ⟨Int.le_refl _, fun _ z => nomatch z⟩
  | r :: rs, p, q, m, st, lb, m', hb, k => by
    unfold LayC at k
    have hb' : ∀ x ∈ rs, x.mark = false → SI E h S x := fun x hx => hb x (List.mem_cons_of_mem _ hx)
    by_cases hm : r.mark = true
    · rw [if_pos hm] at k
      obtain ⟨lb', h1, h2⟩ := k
      exact layC_in hb' h2
    · rw [if_neg hm] at k
      have hr := hb r List.mem_cons_self (by cases e : r.mark with | true => exact absurd e hm | false => rfl)
      by_cases hs : stm rs = []
      · rw [if_pos hs] at k
        obtain ⟨st1, st2, m1, h1, h2, h3⟩ := k
        obtain ⟨e1, e2⟩ := layC_nil hs h3
        obtain ⟨r1, r2⟩ := hr _ _ _ _ _ h2
        rw [h1, e1, e2, List.append_nil]
        exact ⟨r1, r2⟩
      · rw [if_neg hs] at k
        obtain ⟨st1, st2, m1, h1, h2, h3⟩ := k
        obtain ⟨r1, r2⟩ := hr _ _ _ _ _ h2
        obtain ⟨t1, t2⟩ := layC_in hb' h3
        rw [h1]
        refine ⟨by omega, app_in (fun s hs => (r2 s hs).mono fun x hx => ?_) fun s hs => (t2 s hs).mono fun x hx => ?_⟩
        · unfold Xr at hx ⊢
          omega
        · unfold Xr at hx ⊢
          omega
theorem true_ok {N Hs : List Str} (n : Nat) : TRk.Ok N Hs (n + 1) := ⟨Nat.zero_le _, fun _ z => nomatch z⟩
theorem no_sets {N : List Str} : ([] : List (Str × Sm)).length ≤ 10 ∧ ∀ q ∈ ([] : List (Str × Sm)), q.1 ∈ N ∧ q.2.Ok N := ⟨Nat.zero_le _, fun _ z => nomatch z⟩
theorem one_in {X : Int → Prop} {s : Stp} (k : StIn E h X s) : ∀ t ∈ [s], StIn E h X t := fun t ht => by
  rw [List.mem_singleton.mp ht]
  exact k
theorem two_in {X : Int → Prop} {s s2 : Stp} (k : StIn E h X s) (k2 : StIn E h X s2) : ∀ t ∈ [s, s2], StIn E h X t := fun t ht => by
  rcases List.mem_cons.mp ht with rfl | ht
  · exact k
  · rw [List.mem_singleton.mp ht]
    exact k2
theorem layR_in {rs : List Row} {p q m : Int} {st : List Stp} {lb : List (Str × Int)} {m' : Int} (hb : ∀ x ∈ rs, x.mark = false → SI E h S x) (k : LayR h S rs p q m st lb m') : m ≤ m' ∧ ∀ s ∈ st, StIn E h (Xr p m m') s := by
  unfold LayR at k
  by_cases hs : stm rs = []
  · rw [if_pos hs] at k
    obtain ⟨st', e, k⟩ := k
    obtain ⟨e1, e2⟩ := layC_nil hs k
    rw [e, e1, e2, List.append_nil]
    exact ⟨Int.le_refl _, one_in ⟨rfl, .inl rfl, true_ok 2, no_sets⟩⟩
  · rw [if_neg hs] at k
    exact layC_in hb k
theorem layW_in : ∀ {ws : List (List Row)} {k q m : Int} {st : List Stp} {m' : Int}, (∀ a ∈ ws, ∀ x ∈ a, x.mark = false → SI E h S x) → LayW h S ws k q m st m' → m ≤ m' ∧ ∀ s ∈ st, StIn E h (fun x => (k ≤ x ∧ x < k + ws.length) ∨ (m ≤ x ∧ x < m')) s
  | [], _, _, _, _, _, _, k => by
    rw [k.1, k.2]
    exact ⟨Int.le_refl _, fun _ z => nomatch z⟩
  | a :: ws, p, q, m, st, m', hb, k => by
    obtain ⟨st1, st2, m1, h1, h2, h3⟩ := k
    obtain ⟨r1, r2⟩ := layR_in (hb a List.mem_cons_self) h2
    obtain ⟨t1, t2⟩ := layW_in (fun x hx => hb x (List.mem_cons_of_mem _ hx)) h3
    rw [h1, List.length_cons]
    refine ⟨by omega, app_in (fun s hs => (r2 s hs).mono fun x hx => ?_) fun s hs => (t2 s hs).mono fun x hx => ?_⟩
    · unfold Xr at hx
      omega
    · omega
end
theorem eithers_in {E : En} {h : Str} {p m : Int} {k : Nat} {X : Int → Prop} (hp : X p) : ∀ s ∈ eithers h p m k, StIn E h X s := fun s hs => by
  unfold eithers at hs
  obtain ⟨i, _, rfl⟩ := List.mem_map.mp hs
  exact ⟨rfl, hp, true_ok 2, no_sets⟩
theorem mem_rep {k : Nat} {a : List Row} {x : Row} (h : x ∈ (List.replicate k a).flatten) : x ∈ a := by
  obtain ⟨l1, hl1, hx1⟩ := List.mem_flatten.mp h
  rw [(List.mem_replicate.mp hl1).2] at hx1
  exact hx1
theorem layS_in {E : En} {h : Str} {num : Int} : ∀ (n : Nat) (r : Row), r.Ok E n → SI E h (LayS h num n) r
  | 0, _, ok => ok.elim
  | n + 1, .set ss, ok => fun p q m st m' k => by
    obtain ⟨ss', e1, e2, e3⟩ := k
    rw [e2, e3]
    refine ⟨Int.le_refl _, one_in ⟨rfl, .inl rfl, true_ok 2, by rw [e1.length_eq]; exact ok.1, fun q hq => ?_⟩⟩
    obtain ⟨o1, o2, o3⟩ := ok.2.2 q (e1.mem_iff.mp hq)
    exact ⟨List.mem_append_left _ o1, o3⟩
  | n + 1, .wait r, ok => fun p q m st m' k => by
    rw [k.1, k.2]
    exact ⟨Int.le_refl _, one_in ⟨rfl, .inl rfl, rk_up 2 r ok, no_sets⟩⟩
  | n + 1, .take l, ok => fun p q m st m' k => by
    rw [k.1, k.2]
    refine ⟨Int.le_refl _, one_in ⟨rfl, .inl rfl, ⟨by show 1 ≤ 10; decide, fun q hq => ?_⟩, by show 1 ≤ 10; decide, fun q hq => ?_⟩⟩
    · rw [List.mem_singleton.mp hq]
      exact ⟨List.mem_append_right _ ok.1, ok.2, by show -(2 ^ 64) < (1 : Int); decide, by show (1 : Int) < 2 ^ 64; decide⟩
    · rw [List.mem_singleton.mp hq]
      exact ⟨List.mem_append_right _ ok.1, Nat.zero_le _, fun _ z => nomatch z⟩
  | n + 1, .give l, ok => fun p q m st m' k => by
    rw [k.1, k.2]
    refine ⟨Int.le_refl _, one_in ⟨rfl, .inl rfl, true_ok 2, by show 1 ≤ 10; decide, fun q hq => ?_⟩⟩
    rw [List.mem_singleton.mp hq]
    exact ⟨List.mem_append_right _ ok.1, Nat.zero_le _, fun _ z => nomatch z⟩
  | n + 1, .iff r a b, ok => fun p q m st m' k => by
    unfold LayS at k
    by_cases e : b = []
    · rw [if_pos e] at k
      obtain ⟨st', e1, k⟩ := k
      obtain ⟨r1, r2⟩ := layR_in (E := E) (fun x hx _ => layS_in n x (ok.2.2.1 x hx)) k
      rw [e1]
      refine ⟨by omega, app_in (two_in ⟨rfl, .inl rfl, rk_up 2 r ok.1, no_sets⟩ ⟨rfl, .inl rfl, ok.1, no_sets⟩) fun s hs => (r2 s hs).mono fun x hx => ?_⟩
      unfold Xr at hx ⊢
      omega
    · rw [if_neg e] at k
      obtain ⟨st1, st2, m1, e1, k1, k2⟩ := k
      obtain ⟨r1, r2⟩ := layR_in (E := E) (fun x hx _ => layS_in n x (ok.2.2.1 x hx)) k1
      obtain ⟨t1, t2⟩ := layR_in (E := E) (fun x hx _ => layS_in n x (ok.2.2.2.2 x hx)) k2
      rw [e1]
      refine ⟨by omega, app_in (two_in ⟨rfl, .inl rfl, rk_up 2 r ok.1, no_sets⟩ ⟨rfl, .inl rfl, ok.1, no_sets⟩) (app_in (fun s hs => (r2 s hs).mono fun x hx => ?_) fun s hs => (t2 s hs).mono fun x hx => ?_)⟩
      · unfold Xr at hx ⊢
        omega
      · unfold Xr at hx ⊢
        omega
  | n + 1, .whl r a, ok => fun p q m st m' k => by
    obtain ⟨st', e1, k⟩ := k
    obtain ⟨r1, r2⟩ := layR_in (E := E) (fun x hx _ => layS_in n x (ok.2.2 x hx)) k
    rw [e1]
    refine ⟨by omega, app_in (two_in ⟨rfl, .inl rfl, rk_up 2 r ok.1, no_sets⟩ ⟨rfl, .inl rfl, ok.1, no_sets⟩) fun s hs => (r2 s hs).mono fun x hx => ?_⟩
    unfold Xr at hx ⊢
    omega
  | n + 1, .rounds j a, ok => fun p q m st m' k => layR_in (E := E) (S := LayS h num n) (fun x hx _ => layS_in n x (ok.2.2.2 x (mem_rep hx))) k
  | n + 1, .either ws, ok => fun p q m st m' k => by
    obtain ⟨st', e1, k⟩ := k
    obtain ⟨r1, r2⟩ := layW_in (E := E) (fun a ha x hx _ => layS_in n x ((ok.2.2 a ha).2 x hx)) k
    rw [e1]
    refine ⟨by omega, app_in (eithers_in (.inl rfl)) fun s hs => (r2 s hs).mono fun x hx => ?_⟩
    unfold Xr
    omega
  | _ + 1, .label _, ok => ok.elim
  | _ + 1, .say _, ok => fun p q m st m' k => k.elim
  | _ + 1, .skip, ok => ok.elim
end Ca
namespace Ca
open PySem L2
/-! ## the steps of a hand from a place -/
def outs (S : List Stp) (h : Str) (p : Int) : List Stp := S.filter fun s => decide (s.hand = h ∧ s.frm = p)
def Own (S st : List Stp) (h : Str) (X : Int → Prop) : Prop := ∀ x, X x → outs S h x = outs st h x
theorem outs_app (a b : List Stp) (h : Str) (p : Int) : outs (a ++ b) h p = outs a h p ++ outs b h p := List.filter_append ..
theorem outs_no {a : List Stp} {h : Str} {p : Int} (k : ∀ s ∈ a, s.hand = h → s.frm ≠ p) : outs a h p = [] := List.filter_eq_nil_iff.mpr fun s hs => by
  rw [decide_eq_true_iff]
  exact fun z => k s hs z.1 z.2
theorem outs_all {a : List Stp} {h : Str} {p : Int} (k : ∀ s ∈ a, s.hand = h ∧ s.frm = p) : outs a h p = a := List.filter_eq_self.mpr fun s hs => decide_eq_true (k s hs)
theorem outs_pre {E : En} {a b : List Stp} {h : Str} {p : Int} {X : Int → Prop} (k : ∀ s ∈ a, s.hand = h ∧ s.frm = p) (kb : ∀ s ∈ b, StIn E h X s) (nx : ¬ X p) : outs (a ++ b) h p = a := by
  rw [outs_app, outs_all k, outs_no (fun s hs _ e => nx (by rw [← e]; exact (kb s hs).frm)), List.append_nil]
theorem Own.left {E : En} {S a b : List Stp} {h : Str} {X Y Z : Int → Prop} (o : Own S (a ++ b) h X) (kb : ∀ s ∈ b, StIn E h Y s) (e : ∀ x, Z x → X x ∧ ¬ Y x) : Own S a h Z := fun x hx => by
  rw [o x (e x hx).1, outs_app, outs_no (a := b) (fun s hs _ z => (e x hx).2 (by rw [← z]; exact (kb s hs).frm)), List.append_nil]
theorem Own.right {E : En} {S a b : List Stp} {h : Str} {X Y Z : Int → Prop} (o : Own S (a ++ b) h X) (ka : ∀ s ∈ a, StIn E h Y s) (e : ∀ x, Z x → X x ∧ ¬ Y x) : Own S b h Z := fun x hx => by
  rw [o x (e x hx).1, outs_app, outs_no (a := a) (fun s hs _ z => (e x hx).2 (by rw [← z]; exact (ka s hs).frm)), List.nil_append]
section
variable (S : List Stp) (E : En) (h : Str) (num : Int)
def LdS (n : Nat) (r : Row) (p q : Int) : Prop := ∃ m st m', LayS h num n r p q m st m' ∧ p < m ∧ 2 ≤ m ∧ Own S st h (Xr p m m')
/-- a row of the law's lists is laid from a place to a place -/
def LdE (r : Row) (p q : Int) : Prop := (r = .skip ∧ outs S h p = [⟨h, p, TRk, [], q⟩]) ∨ ∃ n, n ≤ 3 ∧ r.Ok E n ∧ r.mark = false ∧ LdS S h num n r p q
def Ch : List Ent → Int → Int → Prop
  | [], p, q => p = q
  | e :: r, p, q => ∃ q1, LdE S E h num e.2 p q1 ∧ (r ≠ [] → 2 ≤ q1) ∧ Ch r q1 q
def Todo (fk : Int) (first : List Ent) : List Ent → Int → Prop
  | [], p => p = 1
  | e :: r, p => p ≠ 1 ∧ (e.1 = fk → p = 0 ∧ e :: r = first) ∧ (e.1 ≠ fk → p ≠ 0) ∧ ∃ q, LdE S E h num e.2 p q ∧ Todo fk first r q
end
section
variable {S : List Stp} {E : En} {h : Str} {num : Int}
theorem layC_ch {n : Nat} (hn : n ≤ 3) : ∀ {rs : List Row} {pen p q m : Int} {st : List Stp} {lb : List (Str × Int)} {m' : Int}, stm rs ≠ [] → (∀ x ∈ rs, x.mark = false → x.Ok E n) → LayC (LayS h num n) rs p q m st lb m' → p < m → 2 ≤ m → Own S st h (Xr p m m') →
    Ch S E h num (numb pen (stm rs)) p q
  | [], _, _, _, _, _, _, _, e, _, _, _, _, _ => absurd rfl e
  | r :: rs, pen, p, q, m, st, lb, m', e, ok, k, h1, h2, o => by
    unfold LayC at k
    have ok' : ∀ x ∈ rs, x.mark = false → x.Ok E n := fun x hx => ok x (List.mem_cons_of_mem _ hx)
    have inn : ∀ x ∈ rs, x.mark = false → SI E h (LayS h num n) x := fun x hx hm => layS_in n x (ok' x hx hm)
    by_cases hm : r.mark = true
    · rw [if_pos hm] at k
      obtain ⟨lb', _, k⟩ := k
      rw [stm_mark hm] at e ⊢
      exact layC_ch hn e ok' k h1 h2 o
    · have hm' : r.mark = false := by cases z : r.mark with | true => exact absurd z hm | false => rfl
      have okr := ok r List.mem_cons_self hm'
      rw [if_neg hm] at k
      rw [stm_cons hm']
      by_cases hs : stm rs = []
      · rw [if_pos hs] at k
        obtain ⟨st1, st2, m1, e1, k1, k2⟩ := k
        obtain ⟨e2, e3⟩ := layC_nil hs k2
        rw [e1, e2, List.append_nil, e3] at o
        rw [hs]
        exact ⟨q, .inr ⟨n, hn, okr, hm', m, st1, m1, k1, h1, h2, o⟩, fun z => absurd rfl z, rfl⟩
      · rw [if_neg hs] at k
        obtain ⟨st1, st2, m1, e1, k1, k2⟩ := k
        obtain ⟨r1, r2⟩ := layS_in n r okr _ _ _ _ _ k1
        obtain ⟨t1, t2⟩ := layC_in inn k2
        rw [e1] at o
        refine ⟨m, .inr ⟨n, hn, okr, hm', m + 1, st1, m1, k1, by omega, by omega, o.left t2 fun x hx => ?_⟩, fun _ => h2, layC_ch hn hs ok' k2 (by omega) (by omega) (o.right r2 fun x hx => ?_)⟩
        · unfold Xr at hx ⊢
          omega
        · unfold Xr at hx ⊢
          omega
theorem layR_ch {n : Nat} (hn : n ≤ 3) {rs : List Row} {p q m : Int} {st : List Stp} {lb : List (Str × Int)} {m' : Int} (ok : ∀ x ∈ rs, x.mark = false → x.Ok E n) (k : LayR h (LayS h num n) rs p q m st lb m') (h1 : p < m) (h2 : 2 ≤ m) (o : Own S st h (Xr p m m')) (pen : Int) :
    Ch S E h num (numb pen (lstR rs)) p q := by
  unfold LayR at k
  unfold lstR
  by_cases hs : stm rs = []
  · rw [if_pos hs] at k ⊢
    obtain ⟨st', e, k⟩ := k
    obtain ⟨e1, e2⟩ := layC_nil hs k
    refine ⟨q, .inl ⟨rfl, ?_⟩, fun z => absurd rfl z, rfl⟩
    rw [o p (.inl rfl), e, e1, List.append_nil]
    exact outs_all fun s hs => by rw [List.mem_singleton.mp hs]; exact ⟨rfl, rfl⟩
  · rw [if_neg hs] at k ⊢
    exact layC_ch hn hs ok k h1 h2 o
/-! ### what a row's steps are -/
theorem ld_skip {p q : Int} (k : LdE S E h num .skip p q) : outs S h p = [⟨h, p, TRk, [], q⟩] := by
  rcases k with ⟨_, k⟩ | ⟨n, _, ok, _⟩
  · exact k
  · cases n <;> exact ok.elim
theorem one_at {s : Stp} {p : Int} (e1 : s.hand = h) (e2 : s.frm = p) : ∀ t ∈ [s], t.hand = h ∧ t.frm = p := fun t ht => by
  rw [List.mem_singleton.mp ht]
  exact ⟨e1, e2⟩
theorem two_at {s s2 : Stp} {p : Int} (e1 : s.hand = h) (e2 : s.frm = p) (e3 : s2.hand = h) (e4 : s2.frm = p) : ∀ t ∈ [s, s2], t.hand = h ∧ t.frm = p := fun t ht => by
  rcases List.mem_cons.mp ht with rfl | ht
  · exact ⟨e1, e2⟩
  · rw [List.mem_singleton.mp ht]
    exact ⟨e3, e4⟩
theorem ld_ok {r : Row} {p q : Int} (k : LdE S E h num r p q) (e : r ≠ .skip) : ∃ n, n + 1 ≤ 3 ∧ r.Ok E (n + 1) ∧ LdS S h num (n + 1) r p q := by
  rcases k with ⟨e2, _⟩ | ⟨n, h1, h2, _, h4⟩
  · exact absurd e2 e
  · cases n with
    | zero => exact h2.elim
    | succ n => exact ⟨n, h1, h2, h4⟩
theorem ld_set {ss : List (Str × Sm)} {p q : Int} (k : LdE S E h num (.set ss) p q) : (ss.map (·.1)).Nodup ∧ (∀ x ∈ ss, x.1 ∈ E.mine) ∧ ∃ ss', List.Perm ss' ss ∧ outs S h p = [⟨h, p, TRk, ss', q⟩] := by
  obtain ⟨n, hn, ok, m, st, m', k, h1, h2, o⟩ := ld_ok k (fun z => nomatch z)
  obtain ⟨ss', e1, e2, e3⟩ := k
  refine ⟨ok.2.1, fun x hx => (ok.2.2 x hx).1, ss', e1, ?_⟩
  rw [o p (.inl rfl), e2]
  exact outs_all (one_at rfl rfl)
theorem ld_wait {r : Rk} {p q : Int} (k : LdE S E h num (.wait r) p q) : outs S h p = [⟨h, p, r, [], q⟩] := by
  obtain ⟨n, hn, ok, m, st, m', k, h1, h2, o⟩ := ld_ok k (fun z => nomatch z)
  rw [o p (.inl rfl), k.1]
  exact outs_all (one_at rfl rfl)
theorem ld_take {l : Str} {p q : Int} (k : LdE S E h num (.take l) p q) : outs S h p = [⟨h, p, .most ⟨0, [(l, 1)]⟩, [(l, ⟨num, []⟩)], q⟩] := by
  obtain ⟨n, hn, ok, m, st, m', k, h1, h2, o⟩ := ld_ok k (fun z => nomatch z)
  rw [o p (.inl rfl), k.1]
  exact outs_all (one_at rfl rfl)
theorem ld_give {l : Str} {p q : Int} (k : LdE S E h num (.give l) p q) : outs S h p = [⟨h, p, TRk, [(l, ⟨0, []⟩)], q⟩] := by
  obtain ⟨n, hn, ok, m, st, m', k, h1, h2, o⟩ := ld_ok k (fun z => nomatch z)
  rw [o p (.inl rfl), k.1]
  exact outs_all (one_at rfl rfl)
theorem ld_whl {r : Rk} {a : List Row} {p q : Int} (k : LdE S E h num (.whl r a) p q) : ∃ m, 2 ≤ m ∧ outs S h p = [⟨h, p, r, [], m⟩, ⟨h, p, .not r, [], q⟩] ∧ ∀ pen, Ch S E h num (numb pen (lstR a)) m p := by
  obtain ⟨n, hn, ok, m, st, m', k, h1, h2, o⟩ := ld_ok k (fun z => nomatch z)
  obtain ⟨st', e, k⟩ := k
  obtain ⟨r1, r2⟩ := layR_in (E := E) (fun x hx _ => layS_in n x (ok.2.2 x hx)) k
  rw [e] at o
  refine ⟨m, h2, ?_, fun pen => layR_ch (by omega) (fun x hx _ => ok.2.2 x hx) k (by omega) (by omega) (o.right (E := E) (Y := fun x => x = p) (two_in ⟨rfl, rfl, rk_up 2 r ok.1, no_sets⟩ ⟨rfl, rfl, ok.1, no_sets⟩) fun x hx => ?_) pen⟩
  · rw [o p (.inl rfl)]
    exact outs_pre (two_at rfl rfl rfl rfl) r2 (by unfold Xr; omega)
  · unfold Xr at hx ⊢
    omega
theorem ld_iff1 {r : Rk} {a : List Row} {p q : Int} (k : LdE S E h num (.iff r a []) p q) : ∃ m, 2 ≤ m ∧ outs S h p = [⟨h, p, r, [], m⟩, ⟨h, p, .not r, [], q⟩] ∧ ∀ pen, Ch S E h num (numb pen (lstR a)) m q := by
  obtain ⟨n, hn, ok, m, st, m', k, h1, h2, o⟩ := ld_ok k (fun z => nomatch z)
  unfold LayS at k
  rw [if_pos rfl] at k
  obtain ⟨st', e, k⟩ := k
  obtain ⟨r1, r2⟩ := layR_in (E := E) (fun x hx _ => layS_in n x (ok.2.2.1 x hx)) k
  rw [e] at o
  refine ⟨m, h2, ?_, fun pen => layR_ch (by omega) (fun x hx _ => ok.2.2.1 x hx) k (by omega) (by omega) (o.right (E := E) (Y := fun x => x = p) (two_in ⟨rfl, rfl, rk_up 2 r ok.1, no_sets⟩ ⟨rfl, rfl, ok.1, no_sets⟩) fun x hx => ?_) pen⟩
  · rw [o p (.inl rfl)]
    exact outs_pre (two_at rfl rfl rfl rfl) r2 (by unfold Xr; omega)
  · unfold Xr at hx ⊢
    omega
theorem ld_iff2 {r : Rk} {a c : List Row} {p q : Int} (hc : c ≠ []) (k : LdE S E h num (.iff r a c) p q) : ∃ m, 2 ≤ m ∧ outs S h p = [⟨h, p, r, [], m⟩, ⟨h, p, .not r, [], m + 1⟩] ∧ (∀ pen, Ch S E h num (numb pen (lstR a)) m q) ∧ ∀ pen, Ch S E h num (numb pen (lstR c)) (m + 1) q := by
  obtain ⟨n, hn, ok, m, st, m', k, h1, h2, o⟩ := ld_ok k (fun z => nomatch z)
  unfold LayS at k
  rw [if_neg hc] at k
  obtain ⟨st1, st2, m1, e, k1, k2⟩ := k
  obtain ⟨r1, r2⟩ := layR_in (E := E) (fun x hx _ => layS_in n x (ok.2.2.1 x hx)) k1
  obtain ⟨t1, t2⟩ := layR_in (E := E) (fun x hx _ => layS_in n x (ok.2.2.2.2 x hx)) k2
  rw [e] at o
  have r3 : ∀ s ∈ st1 ++ st2, StIn E h (fun x => m ≤ x) s := app_in (fun s hs => (r2 s hs).mono fun x hx => by unfold Xr at hx; omega) fun s hs => (t2 s hs).mono fun x hx => by unfold Xr at hx; omega
  have o2 : Own S (st1 ++ st2) h (fun x => m ≤ x ∧ x < m') := o.right (E := E) (Y := fun x => x = p) (two_in ⟨rfl, rfl, rk_up 2 r ok.1, no_sets⟩ ⟨rfl, rfl, ok.1, no_sets⟩) fun x hx => by
    unfold Xr
    omega
  refine ⟨m, h2, ?_, fun pen => layR_ch (by omega) (fun x hx _ => ok.2.2.1 x hx) k1 (by omega) (by omega) (o2.left t2 fun x hx => ?_) pen, fun pen => layR_ch (by omega) (fun x hx _ => ok.2.2.2.2 x hx) k2 (by omega) (by omega) (o2.right r2 fun x hx => ?_) pen⟩
  · rw [o p (.inl rfl)]
    exact outs_pre (two_at rfl rfl rfl rfl) r3 (by omega)
  · unfold Xr at hx ⊢
    omega
  · unfold Xr at hx ⊢
    omega
theorem layW_ch {n : Nat} (hn : n ≤ 3) {q : Int} : ∀ {ws : List (List Row)} {p m : Int} {st : List Stp} {m' : Int}, (∀ a ∈ ws, ∀ x ∈ a, x.Ok E n) → LayW h (LayS h num n) ws p q m st m' → p + ws.length ≤ m → 2 ≤ m → Own S st h (fun x => (p ≤ x ∧ x < p + ws.length) ∨ (m ≤ x ∧ x < m')) →
    ∀ (i : Nat) (a : List Row), ws[i]? = some a → ∀ pen, Ch S E h num (numb pen (lstR a)) (p + i) q
  | [], _, _, _, _, _, _, _, _, _, i, a, hi, _ => by simp at hi
  | w :: ws, p, m, st, m', ok, k, h1, h2, o, i, a, hi, pen => by
    obtain ⟨st1, st2, m1, e, k1, k2⟩ := k
    rw [List.length_cons] at h1 o
    obtain ⟨r1, r2⟩ := layR_in (E := E) (fun x hx _ => layS_in n x (ok w List.mem_cons_self x hx)) k1
    obtain ⟨t1, t2⟩ := layW_in (E := E) (fun a ha x hx _ => layS_in n x (ok a (List.mem_cons_of_mem _ ha) x hx)) k2
    rw [e] at o
    cases i with
    | zero =>
      have ea : w = a := Option.some.inj hi
      rw [← ea]
      have ep : p + ((0 : Nat) : Int) = p := by omega
      rw [ep]
      refine layR_ch hn (fun x hx _ => ok w List.mem_cons_self x hx) k1 (by omega) h2 (o.left t2 fun x hx => ?_) pen
      unfold Xr at hx
      omega
    | succ i =>
      have ep : p + ((i + 1 : Nat) : Int) = (p + 1) + (i : Nat) := by omega
      rw [ep]
      refine layW_ch hn (fun a ha => ok a (List.mem_cons_of_mem _ ha)) k2 (by omega) (by omega) (o.right r2 fun x hx => ?_) i a hi pen
      unfold Xr
      omega
theorem ld_either {ws : List (List Row)} {p q : Int} (k : LdE S E h num (.either ws) p q) : ∃ m, 2 ≤ m ∧ outs S h p = eithers h p m ws.length ∧ ∀ (i : Nat) (a : List Row), ws[i]? = some a → ∀ pen, Ch S E h num (numb pen (lstR a)) (m + i) q := by
  obtain ⟨n, hn, ok, m, st, m', k, h1, h2, o⟩ := ld_ok k (fun z => nomatch z)
  obtain ⟨st', e, k⟩ := k
  obtain ⟨t1, t2⟩ := layW_in (E := E) (fun a ha x hx _ => layS_in n x ((ok.2.2 a ha).2 x hx)) k
  rw [e] at o
  refine ⟨m, h2, ?_, layW_ch (by omega) (fun a ha x hx => (ok.2.2 a ha).2 x hx) k (by omega) (by omega) (o.right (E := E) (Y := fun x => x = p) (eithers_in rfl) fun x hx => ?_)⟩
  · rw [o p (.inl rfl)]
    refine outs_pre (fun s hs => ?_) t2 (by omega)
    unfold eithers at hs
    obtain ⟨i, _, rfl⟩ := List.mem_map.mp hs
    exact ⟨rfl, rfl⟩
  · unfold Xr
    omega
theorem ld_rounds {j : Int} {a : List Row} {p q : Int} (k : LdE S E h num (.rounds j a) p q) : ∀ pen, Ch S E h num (numb pen (lstR (List.replicate j.toNat a).flatten)) p q := by
  obtain ⟨n, hn, ok, m, st, m', k, h1, h2, o⟩ := ld_ok k (fun z => nomatch z)
  exact fun pen => layR_ch (by omega) (fun x hx _ => ok.2.2.2 x (mem_rep hx)) k h1 h2 o pen
theorem ld_rk {r : Row} {p q : Int} (k : LdE S E h num r p q) : RkG E 3 r ∧ r.mark = false := by
  rcases k with ⟨e, _⟩ | ⟨n, hn, ok, hm, _⟩
  · rw [e]
    exact ⟨.inr rfl, rfl⟩
  · exact ⟨.inl (row_le ok hn), hm⟩
/-! ### chains -/
theorem numb_ne {pen : Int} (rs : List Row) : numb pen (lstR rs) ≠ [] := fun z => lstR_ne rs (by
  have e := congrArg List.length z
  rw [numb_len] at e
  exact List.length_eq_zero_iff.mp e)
theorem numb_pen : ∀ {p : Int} {rs : List Row} {e : Ent}, e ∈ numb p rs → p < e.1 ∧ e.1 ≤ p + rs.length
  | p, r :: rs, e, k => by
    rw [List.length_cons]
    rcases List.mem_cons.mp k with z | z
    · rw [z]
      show p < p + 1 ∧ p + 1 ≤ _
      omega
    · have := numb_pen z
      omega
theorem numb_nd : ∀ (p : Int) (rs : List Row), ((numb p rs).map (·.1)).Nodup
  | _, [] => List.nodup_nil
  | p, r :: rs => by
    show ((p + 1) :: (numb (p + 1) rs).map (·.1)).Nodup
    rw [List.nodup_cons]
    refine ⟨fun z => ?_, numb_nd (p + 1) rs⟩
    obtain ⟨e, he, e2⟩ := List.mem_map.mp z
    have := (numb_pen he).1
    omega
theorem ch_app {b : List Ent} {q q' : Int} (hb : b ≠ [] → 2 ≤ q) (kb : Ch S E h num b q q') : ∀ {a : List Ent} {p : Int}, Ch S E h num a p q → Ch S E h num (a ++ b) p q'
  | [], p, k => by
    have e : p = q := k
    rw [e]
    exact kb
  | e :: a, p, ⟨q1, k1, k2, k3⟩ => by
    refine ⟨q1, k1, fun z => ?_, ch_app hb kb k3⟩
    cases a with
    | nil =>
      have e : q1 = q := k3
      rw [e]
      exact hb z
    | cons x y => exact k2 (fun z => nomatch z)
theorem ch_todo {fk : Int} {first left : List Ent} {q : Int} (kl : Todo S E h num fk first left q) : ∀ {es : List Ent} {p : Int}, es ≠ [] → (∀ e ∈ es, e.1 ≠ fk) → 2 ≤ p → Ch S E h num es p q → Todo S E h num fk first (es ++ left) p
  | [], _, e, _, _, _ => absurd rfl e
  | e :: es, p, _, hk, hp, ⟨q1, k1, k2, k3⟩ => by
    refine ⟨by omega, fun z => absurd z (hk e List.mem_cons_self), fun _ => by omega, q1, k1, ?_⟩
    cases es with
    | nil =>
      have e : q1 = q := k3
      rw [e]
      exact kl
    | cons x y => exact ch_todo kl (fun z => nomatch z) (fun e he => hk e (List.mem_cons_of_mem _ he)) (k2 (fun z => nomatch z)) k3
theorem first_todo {e : Ent} {r : List Ent} (nd : ((e :: r).map (·.1)).Nodup) (k : Ch S E h num (e :: r) 0 1) : Todo S E h num e.1 (e :: r) (e :: r) 0 := by
  obtain ⟨q1, k1, k2, k3⟩ := k
  rw [List.map_cons, List.nodup_cons] at nd
  refine ⟨by decide, fun _ => ⟨rfl, rfl⟩, fun z => absurd rfl z, q1, k1, ?_⟩
  cases r with
  | nil => exact k3
  | cons x y =>
    have z := ch_todo (fk := e.1) (first := e :: x :: y) (left := []) (q := 1) rfl (es := x :: y) (fun z => nomatch z) (fun a ha z => nd.1 (by rw [← z]; exact List.mem_map.mpr ⟨a, ha, rfl⟩)) (k2 (fun z => nomatch z)) k3
    rw [List.append_nil] at z
    exact z
/-! ### rounds opened -/
theorem isRd_of {r : Row} (h : isRd r = true) : ∃ k a, r = .rounds k a := by
  cases r <;> first | exact ⟨_, _, rfl⟩ | cases h
theorem opn_rd {n : Nat} {p k pn : Int} {a : List Row} {r : List Ent} : opn (n + 1) p ((pn, .rounds k a) :: r) = opn n (p + (lstR (List.replicate k.toNat a).flatten).length) (numb p (lstR (List.replicate k.toNat a).flatten) ++ r) := rfl
theorem lstR_ok {n : Nat} {rs : List Row} (h : ∀ x ∈ rs, x.mark = false → x.Ok E n) : ∀ x ∈ lstR rs, RkG E n x := lstR_g fun x hx => h x (mem_stm hx).1 (mem_stm hx).2
/-- what is behind opening -/
theorem opn_ok (I : Int → List Ent → Prop) (step : ∀ p pn k a r, I p ((pn, Row.rounds k a) :: r) → I (p + (lstR (List.replicate k.toNat a).flatten).length) (numb p (lstR (List.replicate k.toNat a).flatten) ++ r)) : ∀ (n : Nat) (p : Int) (es : List Ent), HdG E n es → I p es →
    I (opn n p es).2 (opn n p es).1 ∧ p ≤ (opn n p es).2 ∧ ∀ e r, (opn n p es).1 = e :: r → isRd e.2 = false
  | 0, p, es, hd, hi => by
    refine ⟨hi, Int.le_refl _, fun e r z => ?_⟩
    have z' : es = e :: r := z
    rw [z'] at hd
    rcases hd with hd | hd
    · exact hd.elim
    · rw [hd]
      rfl
  | n + 1, p, [], hd, hi => ⟨hi, Int.le_refl _, fun e r z => nomatch z⟩
  | n + 1, p, (pn, row) :: r, hd, hi => by
    cases hr : isRd row with
    | false =>
      rw [opn_no hr]
      exact ⟨hi, Int.le_refl _, fun e r z => by rw [← (List.cons.inj z).1]; exact hr⟩
    | true =>
      obtain ⟨k, a, rfl⟩ := isRd_of hr
      rw [opn_rd]
      have hd2 : HdG E n (numb p (lstR (List.replicate k.toNat a).flatten) ++ r) := by
        have hk : RkG E (n + 1) (.rounds k a) := hd
        rcases hk with hk | hk
        · have g := lstR_ok (E := E) (n := n) (rs := (List.replicate k.toNat a).flatten) fun x hx _ => hk.2.2.2 x (mem_rep hx)
          cases e9 : lstR (List.replicate k.toNat a).flatten with
          | nil => exact absurd e9 (lstR_ne _)
          | cons r0 rr => exact g r0 (by rw [e9]; exact List.mem_cons_self)
        · cases hk
      obtain ⟨i1, i2, i3⟩ := opn_ok I step n _ _ hd2 (step p pn k a r hi)
      exact ⟨i1, by omega, i3⟩
theorem opn_todo {fk P : Int} {first : List Ent} {es : List Ent} {p : Int} (hf : ∀ e r, first = e :: r → isRd e.2 = false) (hP : fk ≤ P) (k : Todo S E h num fk first es p) (hd : HdG E 3 es) :
    Todo S E h num fk first (opn 3 P es).1 p ∧ P ≤ (opn 3 P es).2 ∧ ∀ e r, (opn 3 P es).1 = e :: r → isRd e.2 = false := by
  obtain ⟨⟨_, i1⟩, i2, i3⟩ := opn_ok (fun P es => fk ≤ P ∧ Todo S E h num fk first es p) (fun P pn k a r ⟨hP, t1, t2, t3, q, t4, t5⟩ => by
    refine ⟨by omega, ?_⟩
    have c := ld_rounds t4 P
    have nk : pn ≠ fk := fun z => by
      have := hf _ _ (t2 z).2.symm
      cases this
    have np := t3 nk
    cases e9 : numb P (lstR (List.replicate k.toNat a).flatten) with
    | nil => exact absurd e9 (numb_ne _)
    | cons e es =>
      have hk : ∀ x ∈ e :: es, x.1 ≠ fk := fun x hx => by
        rw [← e9] at hx
        have := (numb_pen hx).1
        omega
      rw [e9] at c
      obtain ⟨q1, c1, c2, c3⟩ := c
      refine ⟨t1, fun z => absurd z (hk e List.mem_cons_self), fun _ => np, q1, c1, ?_⟩
      cases es with
      | nil =>
        have e : q1 = q := c3
        rw [e]
        exact t5
      | cons x y => exact ch_todo t5 (fun z => nomatch z) (fun x hx => hk x (List.mem_cons_of_mem _ hx)) (c2 (fun z => nomatch z)) c3) 3 P es hd ⟨hP, k⟩
  exact ⟨i1, i2, i3⟩
/-- pens of one list -/
def PenOk (P : Int) (es : List Ent) : Prop := (es.map (·.1)).Nodup ∧ ∀ e ∈ es, e.1 ≤ P
theorem opn_first {P : Int} {es : List Ent} (hne : es ≠ []) (hp : PenOk P es) (k : Ch S E h num es 0 1) (hd : HdG E 3 es) :
    (opn 3 P es).1 ≠ [] ∧ Ch S E h num (opn 3 P es).1 0 1 ∧ PenOk (opn 3 P es).2 (opn 3 P es).1 ∧ P ≤ (opn 3 P es).2 ∧ ∀ e r, (opn 3 P es).1 = e :: r → isRd e.2 = false := by
  obtain ⟨⟨i1, i2, i4⟩, i5, i3⟩ := opn_ok (fun P es => es ≠ [] ∧ Ch S E h num es 0 1 ∧ PenOk P es) (fun P pn k a r ⟨_, ⟨q1, c1, c2, c3⟩, d1, d2⟩ => by
    refine ⟨fun z => numb_ne _ (List.append_eq_nil_iff.mp z).1, ch_app c2 c3 (ld_rounds c1 P), ?_, fun e he => ?_⟩
    · rw [List.map_append, List.nodup_append]
      rw [List.map_cons, List.nodup_cons] at d1
      refine ⟨numb_nd _ _, d1.2, fun x hx y hy e => ?_⟩
      obtain ⟨a1, ha1, rfl⟩ := List.mem_map.mp hx
      obtain ⟨b1, hb1, e2⟩ := List.mem_map.mp hy
      have := (numb_pen ha1).1
      have := d2 b1 (List.mem_cons_of_mem _ hb1)
      omega
    · rcases List.mem_append.mp he with he | he
      · exact (numb_pen he).2
      · have := d2 e (List.mem_cons_of_mem _ he)
        omega) 3 P es hd ⟨hne, k, hp⟩
  exact ⟨i1, i2, i4, i5, i3⟩
end
end Ca
namespace Ca
open PySem L2
abbrev s_l_ways : Stmt := top 71
abbrev N_l_ways : List Str := ["_law_program", "_law_stand", "_law_hand", "_law_boxes", "_law_found", "_law_number_here", "_law_there"]
theorem sc_l_ways : FnScope N_l_ways ["_law_program", "_law_stand", "_law_hand", "_law_boxes"] (defScope s_l_ways) := ⟨rfl, rfl, rfl, by decide +kernel, rfl, by decide +kernel, by decide +kernel⟩
-- cells: []  slots: 0=_law_program 1=_law_stand 2=_law_hand 3=_law_boxes 4=_law_found 5=_law_number_here 6=_law_there
inductive LsAt {α : Type} (R : V → α → Prop) : List V → List α → Prop
  | nil : LsAt R [] []
  | cons {v : V} {vs : List V} {m : α} {ms : List α} : R v m → LsAt R vs ms → LsAt R (v :: vs) (m :: ms)
section
variable {α : Type} {R R' : V → α → Prop}
theorem LsAt.mono (e : ∀ v m, R v m → R' v m) : ∀ {ms : List α} {vs : List V}, LsAt R vs ms → LsAt R' vs ms
  | _, _, .nil => .nil
  | _, _, .cons h t => .cons (e _ _ h) (LsAt.mono e t)
theorem LsAt.length : ∀ {ms : List α} {vs : List V}, LsAt R vs ms → vs.length = ms.length
  | _, _, .nil => rfl
  | _, _, .cons _ t => congrArg (· + 1) (LsAt.length t)
theorem LsAt.snoc {v : V} {m : α} (k : R v m) : ∀ {ms : List α} {vs : List V}, LsAt R vs ms → LsAt R (vs ++ [v]) (ms ++ [m])
  | _, _, .nil => .cons k .nil
  | _, _, .cons h t => .cons h (LsAt.snoc k t)
theorem LsAt.get : ∀ {ms : List α} {vs : List V} {i : Nat} {v : V}, LsAt R vs ms → vs[i]? = some v → ∃ m, ms[i]? = some m ∧ R v m
  | _, _, _, _, .nil, e => by simp at e
  | _, _, 0, _, .cons h _, e => by
    simp at e
    subst e
    exact ⟨_, rfl, h⟩
  | _, _, i + 1, v, .cons _ t, e => by
    obtain ⟨m, h1, h2⟩ := LsAt.get (i := i) (v := v) t (by simpa using e)
    exact ⟨m, by simpa using h1, h2⟩
end
/-- a way: the book behind, the stand behind -/
abbrev Wy := Bk × List Int × List Int
def WyAt (K : PySem.W.Frag) (F : Hp) (v : V) (w : Wy) : Prop := ∃ t x y, v = .ref t ∧ SqT K F t [x, y] ∧ BkAt F x (some w.1) ∧ Da K F y (standD w.2.1 w.2.2)
theorem WyAt.mono {K : PySem.W.Frag} {F F' : Hp} (e : Same F F') {v : V} {w : Wy} (h : WyAt K F v w) : WyAt K F' v w := by
  obtain ⟨t, x, y, h1, h2, h3, h4⟩ := h
  exact ⟨t, x, y, h1, e.tup h2, h3.mono e, h4.mono e⟩
def wayS (p : Pg) (ps vs : List Int) (h : Str) (s : Stp) : Option Wy := if s.hand = h then (behind p ps vs s).map fun z => (p.book z.2, z) else none
def waysL (p : Pg) (ps vs : List Int) (h : Str) : List Wy := (canL p ps vs).filterMap fun k => (p.steps[k]?).bind (wayS p ps vs h)
theorem behind_len {p : Pg} {ps vs ps' vs' : List Int} {s : Stp} (h : behind p ps vs s = some (ps', vs')) : ps'.length = p.hands.length ∧ vs'.length = p.boxes.length := by
  unfold behind at h
  by_cases c : lk (p.plcs ps) s.hand = s.frm ∧ s.guard.holds (p.book vs) (p.plcs ps) = true
  · rw [if_pos c] at h
    unfold valuesB at h
    by_cases d : inR p (setB (p.book vs) s.sets) = true
    · rw [if_pos d] at h
      have e := Option.some.inj h
      obtain ⟨e1, e2⟩ := Prod.mk.inj e
      rw [← e1, ← e2, List.length_map, List.length_map]
      exact ⟨List.length_map _, rfl⟩
    · rw [if_neg d] at h
      cases h
  · rw [if_neg c] at h
    cases h
section
variable {P : Program} {w : World} {K : PySem.W.Frag} {mg : Str → Option Value} {base : Heap}
def spWays (K : PySem.W.Frag) : Sp := Sp4 fun program stand hand boxes H Q => ∃ (F : Hp) (p : Pg) (ps vs : List Int) (h : Str), Same F H ∧ Da K F program p.d ∧ p.Ok ∧ Da K F stand (standD ps vs) ∧ ps.length = p.hands.length ∧ vs.length = p.boxes.length ∧ hand = .str h ∧
  Da K F boxes (.list (p.bn.map PyData.str)) ∧ ∀ F' H' l xs, Gr Non F H F' H' → F' l = some (.lst xs) → LsAt (WyAt K F') xs (waysL p ps vs h) → Q (.ref l) H'
theorem das_strs {F : Hp} : ∀ {vs : List V} {xs : List Str}, Das K F vs (xs.map PyData.str) → vs = xs.map V.str
  | _, [], h => by
    cases h
    rfl
  | vs, x :: xs, h => by
    obtain ⟨v, ws, rfl, h1, h2⟩ := h.cons_inv
    cases h1.str_inv
    rw [das_strs h2]
    rfl
theorem ok_ways (F : FunAt K mg "_law_ways" s_l_ways) (G : Glb K mg) (c_can : Cal P w K mg base "can" 6 ["program", "stand"] (spCan K)) (c_done : Cal P w K mg base "done" 6 ["program", "stand", "number"] (spBehind K)) : Cal P w K mg base "_law_ways" 7 ["_law_program", "_law_stand", "_law_hand", "_law_boxes"] (spWays K) := by
  refine F.cal sc_l_ways Sp4.len (fun _ _ _ _ _ _ us hl => match us, hl with | [_, _, _, _], _ => rfl) fun f cdv A outer s H vs Q E hr h => ?_
  have nd := sc_l_ways.nd
  have hu := hu_of hr
  have m_dict := G.dict
  have m_zip := G.zip
  refine ⟨_, (pss_cons (ps_set (i := 4) nd rfl (Or.inl rfl) (pe_lst pa_nil))
    (pss_cons (ps_for PassesOwn.never rfl (pi_list (pe_cal c_can hr rfl (pa_cons (pv 0) (pa_cons (pv 1) pa_nil)))) (pg_name (i := 5) nd rfl (Or.inl rfl))
      (pss_one (ps_if (pt_cmpR op_eq (pe_ix ix_tup (pe_ix ix_list (pe_ix ix_tup (pv 0) pe_int (fun _ _ => rfl)) (pv 5) (fun _ _ => rfl)) pe_int (fun _ _ => rfl)) (pv 2) (nomark _)) (pss_cons (ps_set (i := 6) nd rfl (Or.inl rfl) (pe_cal c_done hr rfl (pa_cons (pv 0) (pa_cons (pv 1) (pa_cons (pv 5) pa_nil)))))
        (pss_one (ps_expr (pe_bm PySem.F.plainAttrs_list PySem.F.slot_list_append PySem.F.type_list_append mt_append (pv 4) (pa_cons (pe_tup (pa_cons (pe_dictZip rfl (by rfl) m_dict (by rfl) m_zip (pa_cons (pv 3) (pa_cons (pe_ix ix_tup (pv 6) pe_int (fun _ _ => rfl)) pa_nil))) (pa_cons (pv 6) pa_nil))) pa_nil))))) pss_nil)))
    (pss_one (ps_ret (pv 4))))), ?_⟩
  obtain ⟨program, stand, hand, boxes, rfl, F0, p, ps, vs, h, hF, h1, ok, h2, hpl, hvl, rfl, hbx, q⟩ := h
  have h1' := h1
  obtain ⟨t, b, h3, sl, l, bs, hs, ss, rfl, k0, b1, b2, c1, c2, d1, d2⟩ := Pg.at_ h1
  obtain ⟨bx, bxs, rfl, x1, x2⟩ := hbx.lst_inv
  have hsl := ok.sl
  have hcl : (canL p ps vs).length ≤ p.steps.length := by
    unfold canL
    refine Nat.le_trans (List.length_filter_le _ _) ?_
    rw [List.length_range]
    exact Nat.le_refl _
  refine ⟨Nat.zero_le _, fun L hL => ?_⟩
  have g1 : Gr Non F0 H F0 (upd H L (.lst [])) := (Gr.refl hF).new (o := .lst []) hL
  refine ⟨_, rfl, _, rfl, _, _, rfl, F0, p, ps, vs, g1.fh, h1', ok, h2, hpl, hvl, fun q1 H1 n1 e1 hq1 => ?_⟩
  have Lq : L ≠ q1 := ne_of_none upd_same n1
  refine ⟨q1, rfl, ⟨_, SqL.of hq1⟩, for_list (K := K) (a := q1) (xs := (canL p ps vs).map fun k => V.int (k : Nat)) (fun i σ H' => ∃ (F' : Hp) (acc : List V) (x y : Option V), σ = [some (.ref t), some stand, some (.str h), some (.ref bx), some (.ref L), x, y] ∧ Gr Non F0 H F' H' ∧ H' q1 = some (.lst ((canL p ps vs).map fun k => V.int (k : Nat))) ∧ F' L = none ∧ H' L = some (.lst acc) ∧
      LsAt (WyAt K F') acc (((canL p ps vs).take i).filterMap fun k => (p.steps[k]?).bind (wayS p ps vs h)))
    ⟨F0, [], none, none, rfl, g1.same e1, hq1, hF.free hL, e1 _ _ upd_same, .nil⟩ (fun i σ H' _ ⟨_, _, _, _, _, _, z, _⟩ => SqL.of z) ?_ ?_⟩
  · rintro i v σ H' hi ⟨F', acc, x, y, rfl, g, hq1', nL, hL', la⟩
    rw [List.getElem?_map] at hi
    cases hk : (canL p ps vs)[i]? with
    | none =>
      rw [hk] at hi
      cases hi
    | some k =>
    rw [hk] at hi
    cases hi
    have hil := (List.getElem?_eq_some_iff.mp hk).1
    have htk : (canL p ps vs).take (i + 1) = (canL p ps vs).take i ++ [k] := by rw [List.take_succ, hk]; rfl
    have lacc : acc.length ≤ i := by
      rw [la.length]
      refine Nat.le_trans (List.length_filterMap_le _ _) ?_
      rw [List.length_take]
      omega
    have hmem := List.mem_of_getElem? hk
    unfold canL at hmem
    obtain ⟨hm1, hm2⟩ := List.mem_filter.mp hmem
    have hk2 := List.mem_range.mp hm1
    obtain ⟨s, hs2⟩ : ∃ s, p.steps[k]? = some s := ⟨_, List.getElem?_eq_getElem hk2⟩
    rw [hs2] at hm2
    have hm3 : (behind p ps vs s).isSome = true := hm2
    obtain ⟨v0, hv0, dv0⟩ := d2.get (i := k) (d := s.d) (by rw [List.getElem?_map, hs2]; rfl)
    obtain ⟨t1, gd, se, rfl, y1, y2, y3⟩ := stp_at dv0
    have hF' : Same F0 H' := g.ff.trans g.fh
    refine ⟨_, rfl, t, _, 2, _, rfl, rfl, hF'.tup k0, rfl, _, rfl, sl, ss, k, .ref t1, rfl, rfl, SqL.of (hF' _ _ d1), atI_nat hv0, t1, _, 0, _, rfl, rfl, hF'.tup y1, at0, _, rfl, rfl, _, rfl, ?_⟩
    by_cases eh : s.hand = h
    · refine ite_b (decide_eq_true (congrArg V.str eh)) ?_
      refine ⟨_, rfl, _, rfl, _, rfl, _, _, _, rfl, F', p, ps, vs, k, s, g.fh, h1'.mono g.ff, ok, h2.mono g.ff, hpl, hvl, rfl, hs2, fun hn => absurd hm3 (by rw [hn]; exact Bool.false_ne_true), fun ps' vs' hb F2 v2 H2 g2 dv => ?_⟩
      obtain ⟨l1, l2⟩ := behind_len hb
      obtain ⟨u, pa, pb, rfl, u1, u2, u3⟩ := stand_at dv
      have hbn : p.bn.length = p.boxes.length := List.length_map _
      have g3 := g.trans g2
      have hL2 := g2.kp _ _ hL' (fun z => z)
      have nL2 := g2.non hL' nL
      have hq2 := g2.kp _ _ hq1' (fun z => z)
      have x1' := g3.ff.trans g3.fh _ _ x1
      have ebs : bxs = p.bn.map V.str := das_strs x2
      refine ⟨_, rfl, .inl ⟨rfl, acc, SqL.of hL2⟩, _, rfl, _, rfl, u, _, 1, _, rfl, rfl, g2.fh.tup u1, at1, bx, pb, p.bn, vs'.map V.int, rfl, by rw [← ebs]; exact SqL.of x1', g2.fh.tup u3, by rw [List.length_map, l2, hbn], fun r hr => ?_⟩
      rw [zip_bk ok.bnd (by rw [l2, hbn])]
      have g4 := g3.newF (o := .dK (bk (p.bn.zip vs'))) hr
      have s4 := Same.new (o := .dK (bk (p.bn.zip vs'))) (g3.fh.free hr)
      have hL4 := Same.new (o := .dK (bk (p.bn.zip vs'))) hr _ _ hL2
      have hq4 := Same.new (o := .dK (bk (p.bn.zip vs'))) hr _ _ hq2
      have Lr : L ≠ r := ne_of_none hL2 hr
      refine ⟨_, rfl, (by show 2 ≤ sizeLine; decide), fun t2 ht2 => ?_⟩
      have g5 := g4.newF (o := .tup [.ref r, .ref u]) ht2
      have s5 := Same.new (o := .tup [.ref r, .ref u]) (g4.fh.free ht2)
      have hL5 := Same.new (o := .tup [.ref r, .ref u]) ht2 _ _ hL4
      have hq5 := Same.new (o := .tup [.ref r, .ref u]) ht2 _ _ hq4
      have Lt : L ≠ t2 := ne_of_none hL4 ht2
      have nL5 : upd (upd F2 r (.dK (bk (p.bn.zip vs')))) t2 (.tup [.ref r, .ref u]) L = none := by rw [upd_ne Lt, upd_ne Lr]; exact nL2
      refine ⟨L, acc, _, rfl, rfl, hL5, by rw [sizeLine_eq]; omega, ?_⟩
      refine ⟨_, acc ++ [.ref t2], _, _, rfl, g5.set (o := .lst (acc ++ [.ref t2])) nL5 hL5 (.inr hL), upd_at hq5 Lq.symm, nL5, upd_same, ?_⟩
      rw [htk, List.filterMap_append]
      have e : [k].filterMap (fun k => (p.steps[k]?).bind (wayS p ps vs h)) = [(p.book vs', ps', vs')] := by
        have eb : (some s).bind (wayS p ps vs h) = some (p.book vs', ps', vs') := by
          show wayS p ps vs h s = _
          unfold wayS
          rw [if_pos eh, hb]
          rfl
        rw [List.filterMap_cons, hs2, eb]
        rfl
      rw [e]
      exact (la.mono fun v m z => z.mono ((g2.ff.trans s4).trans s5)).snoc ⟨t2, _, _, rfl, SqT.of upd_same, ⟨r, rfl, s5 _ _ upd_same⟩, dv.mono (s4.trans s5)⟩
    · refine ite_nb (decide_eq_false (fun z => eh (V.str.inj z))) ?_
      refine ⟨F', acc, _, _, rfl, g, hq1', nL, hL', ?_⟩
      rw [htk, List.filterMap_append]
      have e : [k].filterMap (fun k => (p.steps[k]?).bind (wayS p ps vs h)) = [] := by
        have eb : (some s).bind (wayS p ps vs h) = none := by
          show wayS p ps vs h s = _
          unfold wayS
          rw [if_neg eh]
        rw [List.filterMap_cons, hs2, eb]
        rfl
      rw [e, List.append_nil]
      exact la
  · rintro σ H' ⟨F', acc, x, y, rfl, g, hq1', nL, hL', la⟩
    rw [List.length_map, List.take_length] at la
    exact ⟨_, rfl, q _ _ _ _ (g.frz nL hL' hL) upd_same (la.mono fun v m z => z.mono (Same.new nL))⟩
end
end Ca
namespace Ca
open PySem L2
abbrev s_l_goes_on : Stmt := top 72
abbrev N_l_goes_on : List Str := ["_law_program", "_law_stand", "_law_todo", "_law_book", "_law_stretches", "_law_hands", "_law_boxes", "_law_pen", "_law_found", "_law_k", "_law_rest", "_law_moves_here", "_law_ways_here", "_law_j", "_law_one"]
theorem sc_l_goes_on : FnScope N_l_goes_on ["_law_program", "_law_stand", "_law_todo", "_law_book", "_law_stretches", "_law_hands", "_law_boxes", "_law_pen"] (defScope s_l_goes_on) := ⟨rfl, rfl, rfl, by decide +kernel, rfl, by decide +kernel, by decide +kernel⟩
-- cells: []  slots: 0=_law_program 1=_law_stand 2=_law_todo 3=_law_book 4=_law_stretches 5=_law_hands 6=_law_boxes 7=_law_pen 8=_law_found 9=_law_k 10=_law_rest 11=_law_moves_here 12=_law_ways_here 13=_law_j 14=_law_one
/-- moves that the text allows -/
def mvF (ms : List Mv) : List (Bk × List Ent) := ms.filterMap fun m => m.1.map fun b => (b, m.2)
def MgAt (K : PySem.W.Frag) (F : Hp) (v : V) (m : Bk × List Ent) : Prop := MvAt K F v (some m.1, m.2)
theorem mvs_get {K : PySem.W.Frag} {F : Hp} {i : Nat} {v : V} {vs : List V} {ms : List Mv} (h : MvsAt K F vs ms) (e : vs[i]? = some v) : ∃ m, ms[i]? = some m ∧ MvAt K F v m := h.get e
theorem eqv_bk {K : PySem.W.Frag} {H : Hp} {x y : V} {b : Bk} (hb : (b.map (·.1)).Nodup) (h1 : BkAt H x (some b)) (h2 : BkAt H y (some b)) : EqV K H 2 x y := by
  obtain ⟨a, rfl, ha⟩ := h1
  obtain ⟨c, rfl, hc⟩ := h2
  refine .inr (.inr (.inr ⟨a, c, _, _, rfl, rfl, ha, hc, rfl, fun p hp => ?_⟩))
  unfold bk at hp
  obtain ⟨q, hq, rfl⟩ := List.mem_map.mp hp
  have hm : q.1 ∈ b.map (·.1) := List.mem_map.mpr ⟨q, hq, rfl⟩
  refine ⟨.int (lk b q.1), get_bk hm, .inl ⟨?_, rfl⟩⟩
  show V.int q.2 = V.int (lk b q.1)
  have e : b.lookup q.1 = some q.2 := by
    clear ha hc hm
    induction b with
    | nil => exact nomatch hq
    | cons p r ih =>
      rw [List.map_cons, List.nodup_cons] at hb
      obtain ⟨p1, p2⟩ := p
      rw [List.lookup_cons]
      rcases List.mem_cons.mp hq with z | z
      · rw [z]
        simp
      · have ne : (q.1 == p1) = false := beq_eq_false_iff_ne.mpr fun e => hb.1 (by rw [← e]; exact List.mem_map.mpr ⟨q, z, rfl⟩)
        rw [ne]
        exact ih hb.2 z (List.mem_map.mpr ⟨q, z, rfl⟩)
  unfold lk
  rw [e]
  rfl
theorem paired_get {α β : Type} {R : α → β → Prop} : ∀ {xs : List α} {ys : List β} {i : Nat} {x : α} {y : β}, Paired R xs ys → xs[i]? = some x → ys[i]? = some y → R x y
  | _, _, _, _, _, .nil, e, _ => by simp at e
  | _, _, 0, _, _, .cons h _, e1, e2 => by
    simp at e1 e2
    rw [← e1, ← e2]
    exact h
  | _, _, i + 1, x, y, .cons _ t, e1, e2 => paired_get (i := i) t (by simpa using e1) (by simpa using e2)
/-- what the ways that a law's step may take are like -/
def ItAt (K : PySem.W.Frag) (F : Hp) (J : Str → Bk → List Ent → List Int → List Int → Int → Prop) (P : Int) (v : V) : Prop := ∃ (t : Addr) (x y : V) (h : Str) (b : Bk) (es : List Ent) (ps vs : List Int), v = .ref t ∧ SqT K F t [.str h, x, y] ∧ MvAt K F x (some b, es) ∧ Da K F y (standD ps vs) ∧ J h b es ps vs P
theorem Gp.thenNon {N : Addr} {F H F1 H1 F2 H2 : Hp} {p : Int} (a : Gp N F H F1 H1 p) (b : Gr Non F1 H1 F2 H2) : Gp N F H F2 H2 p :=
  ⟨a.gr.trans (b.mono fun _ z => z.elim), b.kp _ _ a.at_ (fun z => z), b.non a.at_ a.nf⟩
theorem books_eq {K : PySem.W.Frag} {F H : Hp} (e : Same F H) {α : Bk × List Ent → Wy → Prop} : ∀ {ms : List (Bk × List Ent)} {ws : List Wy}, Paired (fun m w => m.1 = w.1 ∧ (m.1.map (·.1)).Nodup ∧ α m w) ms ws → ∀ {xs ys : List V}, LsAt (fun x (m : Bk × List Ent) => BkAt F x (some m.1)) xs ms → LsAt (fun x (m : Wy) => BkAt F x (some m.1)) ys ws → Paired (EqV K H 2) xs ys
  | _, _, .nil, _, _, .nil, .nil => .nil
  | _, _, .cons h t, _, _, .cons a b, .cons c d => by
    refine .cons (eqv_bk h.2.1 (a.mono e) ?_) (books_eq e t b d)
    rw [h.1]
    exact c.mono e
section
variable {P : Program} {w : World} {K : PySem.W.Frag} {mg : Str → Option Value} {base : Heap}
def spGoes (K : PySem.W.Frag) : Sp := Sp8 fun program stand todo book stretches hands boxes pen H Q => ∃ (F : Hp) (N a T D : Addr) (p : Int) (pg : Pg) (ps vs : List Int) (b : Bk) (td : Tds) (st : Str4) (hn : List Str) (J : Str → Bk → List Ent → List Int → List Int → Int → Prop),
  pen = .ref N ∧ Gp N F H F H p ∧ Da K F program pg.d ∧ pg.Ok ∧ Da K F stand (standD ps vs) ∧ ps.length = pg.hands.length ∧ vs.length = pg.boxes.length ∧ book = .ref a ∧ F a = some (.dK (bk b)) ∧ b.length ≤ 100 ∧ todo = .ref T ∧ TdAt K F H T td ∧ T ≠ N ∧ stretches = .ref D ∧ F D = some (.dK (strK st)) ∧ (st.map (·.1)).Nodup ∧
  (∀ q ∈ st, F q.2.1 = some (.tup [.int q.2.2.1, .int q.2.2.2]) ∧ q.1 ∈ b.map (·.1)) ∧ Da K F hands (.list (hn.map PyData.str)) ∧ hn.length ≤ 3 ∧ Da K F boxes (.list (pg.bn.map PyData.str)) ∧
  (∀ (k : Nat) (h : Str), hn[k]? = some h → ∃ t E, lkp td h = some t ∧ (∀ e r, t.rest = e :: r → RkG E 3 e.2 ∧ e.2.mark = false ∧ isRd e.2 = false) ∧ t.rest.length ≤ 90000 ∧ EnB E b td ∧ ∀ P', p ≤ P' → P' ≤ (mv ((k : Int) + 1) b (atT td) st P' t.rest).2 ∧ (mv ((k : Int) + 1) b (atT td) st P' t.rest).1.length ≤ 10 ∧
    Paired (fun (m : Bk × List Ent) (w : Wy) => m.1 = w.1 ∧ (m.1.map (·.1)).Nodup ∧ J h m.1 m.2 w.2.1 w.2.2 (mv ((k : Int) + 1) b (atT td) st P' t.rest).2) (mvF (mv ((k : Int) + 1) b (atT td) st P' t.rest).1) (waysL pg ps vs h)) ∧
  (∀ h b es ps vs P1 P2, P1 ≤ P2 → J h b es ps vs P1 → J h b es ps vs P2) ∧
  ∀ F' H' l xs P', Gp N F H F' H' P' → p ≤ P' → F' l = some (.lst xs) → xs.length ≤ 1000 → (∀ v ∈ xs, ItAt K F' J P' v) → Q (.ref l) H'
theorem ok_goes (F : FunAt K mg "_law_goes_on" s_l_goes_on) (G : Glb K mg) (c_law_moves : Cal P w K mg base "_law_moves" 4 ["_law_rest", "_law_number_here", "_law_book", "_law_todo", "_law_stretches", "_law_pen"] (spMoves K))
    (c_law_ways : Cal P w K mg base "_law_ways" 7 ["_law_program", "_law_stand", "_law_hand", "_law_boxes"] (spWays K)) : Cal P w K mg base "_law_goes_on" 8 ["_law_program", "_law_stand", "_law_todo", "_law_book", "_law_stretches", "_law_hands", "_law_boxes", "_law_pen"] (spGoes K) := by
  refine F.cal sc_l_goes_on Sp8.len (fun _ _ _ _ _ _ us hl => match us, hl with | [_, _, _, _, _, _, _, _], _ => rfl) fun f cdv A outer s H vs Q E hr h => ?_
  have nd := sc_l_goes_on.nd
  have hu := hu_of hr
  have m_len := G.len
  have m_range := G.range
  refine ⟨_, (pss_cons (ps_set (i := 8) nd rfl (Or.inl rfl) (pe_lst pa_nil))
    (pss_cons (ps_for PassesOwn.never rfl (pi_range1 rfl m_range (pa_cons (pe_callB call_len_seq (by rfl) m_len (by decide +kernel) (pa_cons (pv 5) pa_nil)) pa_nil)) (pg_name (i := 9) nd rfl (Or.inl rfl))
      (pss_cons (ps_set (i := 10) nd rfl (Or.inl rfl) (pe_ix ix_tup (pe_dget hu (pv 2) (pe_ix ix_list (pv 5) (pv 9) (fun _ _ => rfl)) (fun _ _ => rfl)) pe_int (fun _ _ => rfl)))
      (pss_cons (ps_set (i := 11) nd rfl (Or.inl rfl) (pe_cal c_law_moves hr rfl (pa_cons (pv 10) (pa_cons (pe_op op_add (pv 9) pe_int) (pa_cons (pv 3) (pa_cons (pv 2) (pa_cons (pv 4) (pa_cons (pv 7) pa_nil))))))))
      (pss_cons (ps_setLc (i := 11) rfl nd rfl rfl (sw_true rfl rfl rfl (by decide +kernel)) (own := [("_law_one", 14)]) (g := (gName 14)) (tt := _) (pi_list (pv 11)) (blkOk_by (own := [("_law_one", 14)]) (N := N_l_goes_on) (sc := defScope s_l_goes_on) (by decide +kernel)) (fun _ _ _ _ _ => (pg_name (i := 14) nd rfl (Or.inl rfl))) (fun _ _ _ _ _ => (pts_one (pt_cmp (pc_notN (pe_ix (ix_tupK (K := K) rfl) (pv 14) pe_int (fun _ _ => rfl)))))) (fun _ _ _ _ _ => (pv 14)))
      (pss_cons (ps_set (i := 12) nd rfl (Or.inl rfl) (pe_cal c_law_ways hr rfl (pa_cons (pv 0) (pa_cons (pv 1) (pa_cons (pe_ix ix_list (pv 5) (pv 9) (fun _ _ => rfl)) (pa_cons (pv 6) pa_nil))))))
      (pss_cons (ps_if (pt_cmpR (Ca.NeL.op_neL hr.units) (pe_lc (own := [("_law_one", 14)]) (g := (gName 14)) (tt := tYes) rfl nd (pi_list (pv 11)) (blkOk_by (own := [("_law_one", 14)]) (N := N_l_goes_on) (sc := defScope s_l_goes_on) (by decide +kernel)) (fun _ _ _ _ _ => (pg_name (i := 14) nd rfl (Or.inl rfl))) (fun _ _ _ _ _ => pts_nil) (fun _ _ _ _ _ => (pe_ix (ix_tupK (K := K) rfl) (pv 14) pe_int (fun _ _ => rfl)))) (pe_lc (own := [("_law_one", 14)]) (g := (gName 14)) (tt := tYes) rfl nd (pi_list (pv 12)) (blkOk_by (own := [("_law_one", 14)]) (N := N_l_goes_on) (sc := defScope s_l_goes_on) (by decide +kernel)) (fun _ _ _ _ _ => (pg_name (i := 14) nd rfl (Or.inl rfl))) (fun _ _ _ _ _ => pts_nil) (fun _ _ _ _ _ => (pe_ix (ix_tupK (K := K) rfl) (pv 14) pe_int (fun _ _ => rfl)))) (nomark _)) (pss_one (ps_ret pe_non)) pss_nil)
      (pss_one (ps_for PassesOwn.never rfl (pi_range1 rfl m_range (pa_cons (pe_callB call_len_seq (by rfl) m_len (by decide +kernel) (pa_cons (pv 11) pa_nil)) pa_nil)) (pg_name (i := 13) nd rfl (Or.inl rfl))
        (pss_one (ps_expr (pe_bm PySem.F.plainAttrs_list PySem.F.slot_list_append PySem.F.type_list_append mt_append (pv 8) (pa_cons (pe_tup (pa_cons (pe_ix ix_list (pv 5) (pv 9) (fun _ _ => rfl)) (pa_cons (pe_ix ix_list (pv 11) (pv 13) (fun _ _ => rfl)) (pa_cons (pe_ix ix_tup (pe_ix ix_list (pv 12) (pv 13) (fun _ _ => rfl)) pe_int (fun _ _ => rfl)) pa_nil)))) pa_nil))))))))))))
    (pss_one (ps_ret (pv 8))))), ?_⟩
  obtain ⟨program, stand, todo, book, stretches, hands, boxes, pen, rfl, F0, N, a, T, D, p, pg, ps, vs, b, td, st, hn, J, rfl, g0, h1, ok, h2, hpl, hvl, rfl, ha, hbl, rfl, hT, hTN, rfl, hD, hnd, hst, hh, hhl, hbx, hyp, mono, q⟩ := h
  obtain ⟨hA, hvs, rfl, y1, y2⟩ := hh.lst_inv
  have ehv : hvs = hn.map V.str := das_strs y2
  have lhv : hvs.length = hn.length := by rw [ehv, List.length_map]
  refine ⟨Nat.zero_le _, fun L hL => ?_⟩
  have g1 := g0.new (o := .lst []) hL
  have LN := g0.ne hL
  refine ⟨_, rfl, hA, _, rfl, .inl (SqL.of (g1.fh _ _ y1)), _, rfl, by omega, by omega, ?_⟩
  have hnat : ((hvs.length : Nat) : Int).toNat = hn.length := by rw [lhv]; rfl
  rw [hnat]
  refine for_range (lo := 0) (n := hn.length) (fun i σ H' => ∃ (F' : Hp) (acc : List V) (P' : Int) (x1 x2 x3 x4 x5 : Option V), σ = [some program, some stand, some (.ref T), some (.ref a), some (.ref D), some (.ref hA), some boxes, some (.ref N), some (.ref L), x1, x2, x3, x4, x5, none] ∧ Gp N F0 H F' H' P' ∧ p ≤ P' ∧ F' L = none ∧ H' L = some (.lst acc) ∧ acc.length ≤ i * 10 ∧ ∀ v ∈ acc, ItAt K F' J P' v)
    ⟨F0, [], p, none, none, none, none, none, rfl, g1, Int.le_refl _, g0.fh.free hL, upd_same, Nat.zero_le _, fun _ z => nomatch z⟩ ?_ ?_
  · rintro i σ H' hi ⟨F', acc, P', x1, x2, x3, x4, x5, rfl, g, hP, nL, hL', lacc, hall⟩
    obtain ⟨h, hh⟩ : ∃ h, hn[i]? = some h := ⟨_, List.getElem?_eq_getElem hi⟩
    obtain ⟨t, E0, ht, hhd, htl, en, hpair⟩ := hyp i h hh
    obtain ⟨hp1, hml, hp2⟩ := hpair P' hP
    have hT' : TdAt K F' H' T td := hT.mono g.ff fun o e => g.gr.kp _ _ e (fun z => hTN z)
    obtain ⟨tv, tg, td1, tl⟩ := hT'.get ht
    have hv : hvs[i]? = some (.str h) := by rw [ehv, List.getElem?_map, hh]; rfl
    have hA' := g.fh _ _ (g.ff _ _ y1)
    have hz : V.int (0 + (i : Int)) = V.int (i : Nat) := by rw [Int.zero_add]
    rw [hz]
    obtain ⟨tt, z1, z2, z3, rfl, k1, k2, k3, k4⟩ := td1.tup3
    refine ⟨_, rfl, _, rfl, _, rfl, hA, _, i, _, rfl, rfl, SqL.of hA', atI_nat hv, T, _, rfl, tg, tt, _, 1, _, rfl, rfl, g.fh.tup k1, at1, ?_⟩
    refine ⟨_, rfl, _, rfl, _, _, rfl, rfl, _, rfl, _, rfl, _, rfl, _, rfl, _, _, _, _, _, _, rfl, F', N, a, T, D, P', (i : Int) + 1, t.rest, b, td, st, E0, rfl, g.sub, k3, tl.2, by omega, hhd, rfl, rfl, g.ff _ _ ha, hbl, rfl, hT', hTN, rfl, g.ff _ _ hD, hnd, (fun q hq => ⟨g.ff _ _ (hst q hq).1, (hst q hq).2⟩), en, fun F2 H2 l2 ms g2 hl2 m2 => ?_⟩
    obtain ⟨mm, emm⟩ : ∃ mm, mm = mv ((i : Int) + 1) b (atT td) st P' t.rest := ⟨_, rfl⟩
    rw [← emm] at hp1 hp2 g2 m2 hml
    have lms := m2.length
    refine ⟨_, rfl, l2, rfl, ⟨_, SqL.of (g2.fh _ _ hl2)⟩, fun M hM => lc_list (K := K) (a := l2) (xs := ms) (fun j H4 => ∃ acc, Same H2 H4 ∧ H4 M = some (.lst acc) ∧ LsAt (MgAt K F2) acc (mvF (mm.1.take j))) ⟨[], Same.new hM, upd_same, .nil⟩ (fun j H4 _ ⟨_, e, _⟩ => SqL.of (e _ _ (g2.fh _ _ hl2))) ?_ ?_⟩
    · rintro j v H4 hj ⟨acc4, e4, hM4, la⟩
      obtain ⟨m, hm, hmv⟩ := m2.get hj
      obtain ⟨t4, x4, y4, rfl, w1, w2, w3⟩ := hmv
      have w1' := (g2.fh.trans e4).tup w1
      refine ⟨rfl, _, rfl, t4, _, 0, _, rfl, rfl, w1', at0, ?_⟩
      have hjl := (List.getElem?_eq_some_iff.mp hm).1
      have lac := la.length
      have lmf : (mvF (mm.1.take j)).length ≤ j := by
        unfold mvF
        refine Nat.le_trans (List.length_filterMap_le _ _) ?_
        rw [List.length_take]
        omega
      have htk : mm.1.take (j + 1) = mm.1.take j ++ [m] := by rw [List.take_succ, hm]; rfl
      obtain ⟨mo, mes⟩ := m
      cases mo with
      | none =>
        cases (show x4 = .non from w2)
        refine ⟨_, rfl, ?_⟩
        refine ite_nb (by rfl) ?_
        refine ⟨acc4, e4, hM4, ?_⟩
        rw [htk]
        unfold mvF
        rw [List.filterMap_append]
        show LsAt _ _ (_ ++ [])
        rw [List.append_nil]
        exact la
      | some b4 =>
        obtain ⟨a4, rfl, ha4⟩ := w2
        refine ⟨_, rfl, ?_⟩
        refine ite_b (by rfl) ?_
        refine ⟨_, rfl, acc4, hM4, by rw [sizeLine_eq]; omega, _, e4.mut hM, upd_same, ?_⟩
        rw [htk]
        unfold mvF
        rw [List.filterMap_append]
        exact la.snoc ⟨t4, _, _, rfl, w1, ⟨a4, rfl, ha4⟩, w3⟩
    · rintro H4 ⟨ac, e4, hM4, la⟩
      rw [lms, List.take_length] at la
      have lac := la.length
      have lmf : (mvF mm.1).length ≤ 10 := by
        unfold mvF
        exact Nat.le_trans (List.length_filterMap_le _ _) hml
      have g3 := (g.trans g2).same e4
      have gM := g3.frz (g2.fh.free hM) hM4 ((g.trans g2).gr.th _ hM) ((g.trans g2).ne hM)
      have sM := Same.new (o := .lst ac) (g2.fh.free hM)
      have F02 := (g.trans g2).ff.trans sM
      have hA4 := F02.trans gM.fh _ _ y1
      refine ⟨_, rfl, _, rfl, _, rfl, _, rfl, hA, _, i, _, rfl, rfl, SqL.of hA4, atI_nat hv, _, rfl, _, _, _, _, rfl, _, pg, ps, vs, h, gM.fh, h1.mono F02, ok, h2.mono F02, hpl, hvl, rfl, hbx.mono F02, fun F5 H5 l5 xs5 g5 hl5 la5 => ?_⟩
      have g6 := gM.thenNon g5
      have s25 := sM.trans g5.ff
      have fM := g5.ff _ _ upd_same
      have lw := la5.length
      have lp : (mvF mm.1).length = (waysL pg ps vs h).length := hp2.length
      -- the two lists of books
      refine ⟨_, rfl, M, rfl, ⟨_, SqL.of (g5.fh _ _ fM)⟩, fun A1 hA1 => lc_list (K := K) (a := M) (xs := ac) (fun j H6 => ∃ a1, Same H5 H6 ∧ H6 A1 = some (.lst a1) ∧ LsAt (fun x (m : Bk × List Ent) => BkAt F5 x (some m.1)) a1 ((mvF mm.1).take j)) ⟨[], Same.new hA1, upd_same, .nil⟩ (fun j H6 _ ⟨_, e, _⟩ => SqL.of (e _ _ (g5.fh _ _ fM))) ?_ ?_⟩
      · rintro j v H6 hj ⟨a1, e6, hA6, l6⟩
        obtain ⟨m, hm, t4, x4, y4, rfl, w1, w2, w3⟩ := la.get hj
        have hml := (List.getElem?_eq_some_iff.mp hm).1
        have l6' := l6.length
        rw [List.length_take] at l6'
        have htk : (mvF mm.1).take (j + 1) = (mvF mm.1).take j ++ [m] := by rw [List.take_succ, hm]; rfl
        refine ⟨rfl, _, rfl, t4, _, 0, _, rfl, rfl, (((s25.trans g5.fh).trans e6)).tup w1, at0, a1, hA6, by rw [sizeLine_eq]; omega, _, e6.mut hA1, upd_same, ?_⟩
        rw [htk]
        exact LsAt.snoc (R := fun x (m : Bk × List Ent) => BkAt F5 x (some m.1)) (w2.mono s25) l6
      rintro H6 ⟨a1, e6, hA6, l6⟩
      rw [lac, List.take_length] at l6
      refine ⟨_, rfl, l5, rfl, ⟨_, SqL.of (e6 _ _ (g5.fh _ _ hl5))⟩, fun A2 hA2 => lc_list (K := K) (a := l5) (xs := xs5) (fun j H7 => ∃ a2, Same H6 H7 ∧ H7 A2 = some (.lst a2) ∧ LsAt (fun x (m : Wy) => BkAt F5 x (some m.1)) a2 ((waysL pg ps vs h).take j)) ⟨[], Same.new hA2, upd_same, .nil⟩ (fun j H7 _ ⟨_, e, _⟩ => SqL.of (e _ _ (e6 _ _ (g5.fh _ _ hl5)))) ?_ ?_⟩
      · rintro j v H7 hj ⟨a2, e7, hA7, l7⟩
        obtain ⟨m, hm, t4, x4, y4, rfl, w1, w2, w3⟩ := la5.get hj
        have hml := (List.getElem?_eq_some_iff.mp hm).1
        have l7' := l7.length
        rw [List.length_take] at l7'
        have htk : (waysL pg ps vs h).take (j + 1) = (waysL pg ps vs h).take j ++ [m] := by rw [List.take_succ, hm]; rfl
        refine ⟨rfl, _, rfl, t4, _, 0, _, rfl, rfl, ((g5.fh.trans e6).trans e7).tup w1, at0, a2, hA7, by rw [sizeLine_eq]; omega, _, e7.mut hA2, upd_same, ?_⟩
        rw [htk]
        exact LsAt.snoc (R := fun x (m : Wy) => BkAt F5 x (some m.1)) w2 l7
      rintro H7 ⟨a2, e7, hA7, l7⟩
      rw [lw, List.take_length] at l7
      have g7 := (g6.same e6).same e7
      refine ⟨2, A1, A2, a1, a2, by decide, rfl, rfl, SqL.of (e7 _ _ hA6), SqL.of hA7, books_eq (fun c o z => g7.fh _ _ z) hp2 l6 l7, ?_⟩
      refine ⟨_, rfl, ?_⟩
      refine ite_nb (by rfl) ?_
      have hL2 := g2.gr.kp _ _ hL' (fun z => LN z)
      have nL2 := g2.gr.non hL' nL
      have hL4 := e4 _ _ hL2
      have LM : L ≠ M := ne_of_none hL2 hM
      have nLM : upd F2 M (.lst ac) L = none := by rw [upd_ne LM]; exact nL2
      have hL5 := g5.kp _ _ hL4 (fun z => z)
      have nL5 := g5.non hL4 nLM
      have lmv : ((ac.length : Nat) : Int).toNat = ac.length := rfl
      refine ⟨_, rfl, M, _, rfl, .inl (SqL.of (g7.fh _ _ fM)), _, rfl, by omega, by omega, ?_⟩
      rw [lmv]
      refine for_range (lo := 0) (n := ac.length) (fun j σ H' => ∃ (F' : Hp) (acc' : List V) (x : Option V), σ = [some program, some stand, some (.ref T), some (.ref a), some (.ref D), some (.ref hA), some boxes, some (.ref N), some (.ref L), some (.int (i : Nat)), some z2, some (.ref M), some (.ref l5), x, none] ∧ Gp N F0 H F' H' mm.2 ∧ Same F5 F' ∧ F' L = none ∧ H' L = some (.lst acc') ∧ acc'.length ≤ i * 10 + j ∧ ∀ v ∈ acc', ItAt K F' J mm.2 v)
        ⟨F5, acc, x5, rfl, g7, Same.refl _, nL5, e7 _ _ (e6 _ _ hL5), by omega, fun v hv => ?_⟩ ?_ ?_
      · obtain ⟨t, x, y, h, b, es, ps, vs, e, j1, j2, j3, j4⟩ := hall v hv
        have s := g2.ff.trans s25
        exact ⟨t, x, y, h, b, es, ps, vs, e, s.tup j1, j2.mono s, j3.mono s, mono _ _ _ _ _ _ _ hp1 j4⟩
      · rintro j σ H8 hj ⟨F8, acc8, x, rfl, g8, sF, nL8, hL8, lacc8, hall8⟩
        have hz : V.int (0 + (j : Int)) = V.int (j : Nat) := by rw [Int.zero_add]
        rw [hz]
        obtain ⟨va, hva⟩ : ∃ v, ac[j]? = some v := ⟨_, List.getElem?_eq_getElem hj⟩
        obtain ⟨vw, hvw⟩ : ∃ v, xs5[j]? = some v := ⟨_, List.getElem?_eq_getElem (by omega)⟩
        obtain ⟨m, hm, hma⟩ := la.get hva
        obtain ⟨wy, hwy, t5, x5', y5, rfl, w1, w2, w3⟩ := la5.get hvw
        obtain ⟨r1, r2, r3⟩ := paired_get hp2 hm hwy
        have hA8 := g8.fh _ _ (sF _ _ ((F02.trans g5.ff) _ _ y1))
        refine ⟨_, rfl, .inl ⟨rfl, acc8, SqL.of hL8⟩, _, rfl, _, rfl, hA, _, i, _, rfl, rfl, SqL.of hA8, atI_nat hv, _, rfl, _, rfl, M, _, j, _, rfl, rfl, SqL.of (g8.fh _ _ (sF _ _ fM)), atI_nat hva, _, rfl, _, rfl, l5, _, j, _, rfl, rfl, SqL.of (g8.fh _ _ (sF _ _ hl5)), atI_nat hvw, t5, _, 1, _, rfl, rfl, (sF.trans g8.fh).tup w1, at1, (by show 3 ≤ sizeLine; decide), fun t9 ht9 => ?_⟩
        have g9 := g8.newF (o := .tup [.str h, va, y5]) ht9
        have s9 := Same.new (o := .tup [.str h, va, y5]) (g8.fh.free ht9)
        have hL9 := Same.new (o := .tup [.str h, va, y5]) ht9 _ _ hL8
        have Lt : L ≠ t9 := ne_of_none hL8 ht9
        have nL9 : upd F8 t9 (.tup [.str h, va, y5]) L = none := by rw [upd_ne Lt]; exact nL8
        refine ⟨L, acc8, _, rfl, rfl, hL9, by rw [sizeLine_eq]; omega, _, acc8 ++ [.ref t9], _, rfl, g9.set (o := .lst (acc8 ++ [.ref t9])) nL9 hL9 hL LN, sF.trans s9, nL9, upd_same, by rw [List.length_append]; show acc8.length + 1 ≤ _; omega, fun v hv => ?_⟩
        rcases List.mem_append.mp hv with hv | hv
        · obtain ⟨t, x, y, h, b, es, ps, vs, e, j1, j2, j3, j4⟩ := hall8 v hv
          exact ⟨t, x, y, h, b, es, ps, vs, e, s9.tup j1, j2.mono s9, j3.mono s9, j4⟩
        · rw [List.mem_singleton.mp hv]
          exact ⟨t9, va, y5, h, m.1, m.2, wy.2.1, wy.2.2, rfl, SqT.of upd_same, hma.mono ((s25.trans sF).trans s9), w3.mono (sF.trans s9), r3⟩
      · rintro σ H8 ⟨F8, acc8, x, rfl, g8, sF, nL8, hL8, lacc8, hall8⟩
        exact ⟨F8, acc8, mm.2, _, _, _, _, _, rfl, g8, by omega, nL8, hL8, by omega, hall8⟩
  · rintro σ H' ⟨F', acc, P', x1, x2, x3, x4, x5, rfl, g, hP, nL, hL', lacc, hall⟩
    exact ⟨_, rfl, q _ _ _ _ _ (g.frz nL hL' hL LN) hP upd_same (by omega) (fun v hv => by
      obtain ⟨t, x, y, h, b, es, ps, vs, e, j1, j2, j3, j4⟩ := hall v hv
      have s := Same.new (o := .lst acc) nL
      exact ⟨t, x, y, h, b, es, ps, vs, e, s.tup j1, j2.mono s, j3.mono s, j4⟩)⟩
end
end Ca
namespace Ca
open PySem L2
/-! ## moves and ways -/
def putM (z : Bk) (x : Str) (v : Int) : Bk := z.map fun p => if p.1 = x then (p.1, v) else p
theorem put_mem {b : Bk} {x : Str} {v : Int} (h : x ∈ b.map (·.1)) : putB b x v = putM b x v := by
  unfold putB
  refine if_pos ?_
  obtain ⟨p, hp, e⟩ := List.mem_map.mp h
  exact List.any_eq_true.mpr ⟨p, hp, decide_eq_true e⟩
theorem putM_keys (b : Bk) (x : Str) (v : Int) : (putM b x v).map (·.1) = b.map (·.1) := by
  unfold putM
  rw [List.map_map]
  refine List.map_congr_left fun p _ => ?_
  show (if p.1 = x then (p.1, v) else p).1 = p.1
  by_cases hp : p.1 = x
  · rw [if_pos hp]
  · rw [if_neg hp]
theorem setB_M {b : Bk} : ∀ {ss : List (Str × Sm)} {t : Bk}, (∀ q ∈ ss, q.1 ∈ t.map (·.1)) → ss.foldl (fun t p => putB t p.1 (p.2.val b)) t = ss.foldl (fun t p => putM t p.1 (p.2.val b)) t
  | [], _, _ => rfl
  | q :: ss, t, h => by
    show ss.foldl _ (putB t q.1 (q.2.val b)) = ss.foldl _ (putM t q.1 (q.2.val b))
    rw [put_mem (h q List.mem_cons_self)]
    exact setB_M fun x hx => by
      rw [putM_keys]
      exact h x (List.mem_cons_of_mem _ hx)
theorem putM_comm {z : Bk} {x y : Str} {u v : Int} (h : x ≠ y) : putM (putM z x u) y v = putM (putM z y v) x u := by
  unfold putM
  rw [List.map_map, List.map_map]
  refine List.map_congr_left fun p _ => ?_
  obtain ⟨k, i⟩ := p
  show (if (if k = x then (k, u) else (k, i)).1 = y then ((if k = x then (k, u) else (k, i)).1, v) else (if k = x then (k, u) else (k, i))) = (if (if k = y then (k, v) else (k, i)).1 = x then ((if k = y then (k, v) else (k, i)).1, u) else (if k = y then (k, v) else (k, i)))
  by_cases hx : k = x
  · subst hx
    simp [h]
  · by_cases hy : k = y
    · subst hy
      simp [hx]
    · simp [hx, hy]
theorem nodup_inj {ss : List (Str × Sm)} (nd : (ss.map (·.1)).Nodup) : ∀ {x y : Str × Sm}, x ∈ ss → y ∈ ss → x.1 = y.1 → x = y := by
  induction ss with
  | nil => exact fun h => nomatch h
  | cons a r ih =>
    rw [List.map_cons, List.nodup_cons] at nd
    intro x y hx hy e
    rcases List.mem_cons.mp hx with hx | hx
    · rcases List.mem_cons.mp hy with hy | hy
      · rw [hx, hy]
      · exact absurd (List.mem_map.mpr ⟨y, hy, by rw [← e, hx]⟩) nd.1
    · rcases List.mem_cons.mp hy with hy | hy
      · exact absurd (List.mem_map.mpr ⟨x, hx, by rw [e, hy]⟩) nd.1
      · exact ih nd.2 hx hy e
theorem setB_perm {b : Bk} {ss ss' : List (Str × Sm)} (p : List.Perm ss' ss) (nd : (ss.map (·.1)).Nodup) (h : ∀ q ∈ ss, q.1 ∈ b.map (·.1)) : setB b ss' = setB b ss := by
  unfold setB
  rw [setB_M h, setB_M fun q hq => h q (p.mem_iff.mp hq)]
  refine List.Perm.foldl_eq' p (fun x hx y hy z => ?_) b
  by_cases e : x.1 = y.1
  · rw [nodup_inj nd (p.mem_iff.mp hx) (p.mem_iff.mp hy) e]
  · first | exact putM_comm e | exact (putM_comm e).symm
def beh (st : Str4) (b : Bk) (f : Str → Str → Bool) (s : Stp) : Option (Bk × Int) := if s.guard.tv b f = true then (setS st b s.sets).map fun t => (t, s.to) else none
section
variable {st : Str4} {b : Bk} {f : Str → Str → Bool}
theorem true_tv : TRk.tv b f = true := rfl
theorem setS_nil (h : inS st b = true) : setS st b [] = some b := if_pos h
theorem beh_nil {s : Stp} (h : inS st b = true) (e : s.sets = []) (g : s.guard.tv b f = true) : beh st b f s = some (b, s.to) := by
  unfold beh
  rw [if_pos g, e, setS_nil h]
  rfl
theorem beh_no {s : Stp} (g : s.guard.tv b f = false) : beh st b f s = none := by
  unfold beh
  rw [if_neg (by rw [g]; exact Bool.false_ne_true)]
theorem beh_set {s : Stp} (g : s.guard.tv b f = true) : beh st b f s = (setS st b s.sets).map fun t => (t, s.to) := if_pos g
theorem not_tv {r : Rk} : (Rk.not r).tv b f = !r.tv b f := rfl
theorem most_tv {l : Str} : (Rk.most ⟨0, [(l, 1)]⟩).tv b f = decide (lk b l ≤ 0) := by
  show decide (0 + 1 * lk b l ≤ 0) = _
  rw [Int.zero_add, Int.one_mul]
theorem fm1 {α β : Type} {g : α → Option β} {s : α} {x : β} (e : g s = some x) (l : List α) : (s :: l).filterMap g = x :: l.filterMap g := by
  rw [List.filterMap_cons, e]
theorem fm0 {α β : Type} {g : α → Option β} {s : α} (e : g s = none) (l : List α) : (s :: l).filterMap g = l.filterMap g := by
  rw [List.filterMap_cons, e]
end
section
variable {S : List Stp} {E : En} {h : Str} {num fk : Int} {first : List Ent} {st : Str4} {b : Bk} {f : Str → Str → Bool}
def RelM (S : List Stp) (E : En) (h : Str) (num fk : Int) (first : List Ent) (n : Nat) (x : Bk × List Ent) (y : Bk × Int) : Prop := x.1 = y.1 ∧ Todo S E h num fk first x.2 y.2 ∧ x.2.length ≤ n
theorem new_todo {P : Int} {rs : List Row} {left : List Ent} {p q : Int} (hP : fk ≤ P) (hp : 2 ≤ p) (c : Ch S E h num (numb P (lstR rs)) p q) (t : Todo S E h num fk first left q) : Todo S E h num fk first (numb P (lstR rs) ++ left) p :=
  ch_todo t (numb_ne rs) (fun e he => by have := (numb_pen he).1; omega) hp c
theorem new_len {P : Int} {rs : List Row} {left : List Ent} (h : rs.length ≤ 4) : (numb P (lstR rs) ++ left).length ≤ left.length + 4 := by
  rw [List.length_append, numb_len]
  have := lstR_len h
  omega
theorem either_sim {q : Int} {left : List Ent} (t : Todo S E h num fk first left q) : ∀ (ws : List (List Row)) (P m : Int), (∀ (i : Nat) (a : List Row), ws[i]? = some a → ∀ pen, Ch S E h num (numb pen (lstR a)) (m + i) q) → (∀ a ∈ ws, a.length ≤ 4) → 2 ≤ m → fk ≤ P →
    P ≤ (mvW b left P ws).2 ∧ Paired (RelM S E h num fk first (left.length + 5)) (mvF (mvW b left P ws).1) ((List.range ws.length).map fun i : Nat => (b, m + (i : Int)))
  | [], P, m, _, _, _, _ => ⟨Int.le_refl _, .nil⟩
  | w :: ws, P, m, hc, hl, hm, hP => by
    obtain ⟨i1, i2⟩ := either_sim t ws (P + (lstR w).length) (m + 1) (fun i a hi pen => by
      have z := hc (i + 1) a (by simpa using hi) pen
      have e : m + ((i + 1 : Nat) : Int) = m + 1 + (i : Nat) := by omega
      rw [e] at z
      exact z) (fun a ha => hl a (List.mem_cons_of_mem _ ha)) (by omega) (by omega)
    have c0 := hc 0 w rfl P
    have e0 : m + ((0 : Nat) : Int) = m := by omega
    rw [e0] at c0
    refine ⟨by show P ≤ (mvW b left (P + (lstR w).length) ws).2; omega, ?_⟩
    rw [List.length_cons, List.range_succ_eq_map, List.map_cons, List.map_map]
    have e1 : (List.range ws.length).map ((fun i : Nat => (b, m + (i : Int))) ∘ Nat.succ) = (List.range ws.length).map fun i : Nat => (b, m + 1 + (i : Int)) := by
      refine List.map_congr_left fun i _ => ?_
      show (b, m + ((i + 1 : Nat) : Int)) = (b, m + 1 + (i : Int))
      have : m + ((i + 1 : Nat) : Int) = m + 1 + (i : Int) := by omega
      rw [this]
    rw [e1]
    show Paired _ ((b, numb P (lstR w) ++ left) :: mvF (mvW b left (P + (lstR w).length) ws).1) _
    have e2 : (b, m + ((0 : Nat) : Int)) = (b, m) := by rw [e0]
    rw [e2]
    have nl := new_len (P := P) (left := left) (hl w List.mem_cons_self)
    exact .cons ⟨rfl, new_todo hP hm c0 t, by show (numb P (lstR w) ++ left).length ≤ _; omega⟩ i2
theorem mv_sim {k p P : Int} {s : Row} {left : List Ent} (T : Todo S E h num fk first ((k, s) :: left) p) (nr : isRd s = false) (inb : inS st b = true) (hin : ∀ x ∈ E.mine, x ∈ b.map (·.1)) (hP : fk ≤ P) :
    P ≤ (mv num b f st P ((k, s) :: left)).2 ∧ (mv num b f st P ((k, s) :: left)).1.length ≤ 10 ∧ Paired (RelM S E h num fk first (left.length + 5)) (mvF (mv num b f st P ((k, s) :: left)).1) ((outs S h p).filterMap (beh st b f)) := by
  have T0 := T
  obtain ⟨t1, t2, t3, q, ld, t4⟩ := T
  obtain ⟨rk, hm⟩ := ld_rk ld
  have one : ∀ {o : Option Bk} {es : List Ent} {q' : Int}, (Todo S E h num fk first es q' ∧ es.length ≤ left.length + 5) → Paired (RelM S E h num fk first (left.length + 5)) (mvF [(o, es)]) ((o.map fun t => (t, q')).toList) := fun {o es q'} z => by
    cases o with
    | none => exact .nil
    | some t => exact .cons ⟨rfl, z.1, z.2⟩ .nil
  have fmo : ∀ {s : Stp}, [s].filterMap (beh st b f) = (beh st b f s).toList := fun {s} => by
    cases e : beh st b f s with
    | none => exact fm0 e []
    | some x => exact fm1 e []
  have le0 : left.length ≤ left.length + 5 := by omega
  cases s with
  | skip =>
    rw [ld_skip ld, fmo, beh_nil inb rfl true_tv]
    exact ⟨Int.le_refl _, by show 1 ≤ 10; decide, one (o := some b) ⟨t4, le0⟩⟩
  | set ss =>
    obtain ⟨nd, km, ss', pm, e⟩ := ld_set ld
    rw [e, fmo, beh_set true_tv]
    have e2 : setS st b ss' = setS st b ss := by
      unfold setS
      rw [setB_perm pm nd fun q hq => hin _ (km q hq)]
    rw [e2]
    exact ⟨Int.le_refl _, by show 1 ≤ 10; decide, one ⟨t4, le0⟩⟩
  | wait r =>
    rw [ld_wait ld, fmo]
    show P ≤ P ∧ (if r.tv b f = true then [(some b, left)] else []).length ≤ 10 ∧ Paired _ (mvF (if r.tv b f = true then [(some b, left)] else [])) _
    cases hr : r.tv b f with
    | true =>
      rw [if_pos rfl, beh_nil inb rfl hr]
      exact ⟨Int.le_refl _, by show 1 ≤ 10; decide, one (o := some b) ⟨t4, le0⟩⟩
    | false =>
      rw [if_neg Bool.false_ne_true, beh_no hr]
      exact ⟨Int.le_refl _, Nat.zero_le _, .nil⟩
  | take l =>
    rw [ld_take ld, fmo]
    show P ≤ P ∧ (if lk b l ≤ 0 then [(setS st b [(l, ⟨num, []⟩)], left)] else []).length ≤ 10 ∧ Paired _ (mvF (if lk b l ≤ 0 then [(setS st b [(l, ⟨num, []⟩)], left)] else [])) _
    by_cases hl : lk b l ≤ 0
    · rw [if_pos hl, beh_set (by rw [most_tv]; exact decide_eq_true hl)]
      exact ⟨Int.le_refl _, by show 1 ≤ 10; decide, one ⟨t4, le0⟩⟩
    · rw [if_neg hl, beh_no (by rw [most_tv]; exact decide_eq_false hl)]
      exact ⟨Int.le_refl _, Nat.zero_le _, .nil⟩
  | give l =>
    rw [ld_give ld, fmo, beh_set true_tv]
    exact ⟨Int.le_refl _, by show 1 ≤ 10; decide, one ⟨t4, le0⟩⟩
  | either ws =>
    obtain ⟨m, hm2, e, hc⟩ := ld_either ld
    have ok : (Row.either ws).Ok E 3 := rk.elim id (fun z => by cases z)
    obtain ⟨i1, i2⟩ := either_sim (b := b) t4 ws P m hc (fun a ha => (ok.2.2 a ha).1) hm2 hP
    have eo : (eithers h p m ws.length).filterMap (beh st b f) = (List.range ws.length).map fun i : Nat => (b, m + (i : Int)) := by
      unfold eithers
      generalize List.range ws.length = rl
      induction rl with
      | nil => rfl
      | cons a r ih =>
        rw [List.map_cons, List.map_cons, fm1 (beh_nil inb rfl true_tv), ih]
    rw [e, eo]
    refine ⟨i1, ?_, i2⟩
    show (mvW b left P ws).1.length ≤ 10
    rw [mvW_len]
    have := ok.2.1
    omega
  | whl r a =>
    obtain ⟨m, hm2, e, hc⟩ := ld_whl ld
    have ok : (Row.whl r a).Ok E 3 := rk.elim id (fun z => by cases z)
    have nl := new_len (P := P) (left := (k, Row.whl r a) :: left) ok.2.1
    rw [List.length_cons] at nl
    rw [e]
    have em : mv num b f st P ((k, .whl r a) :: left) = (if r.tv b f = true then ([(some b, numb P (lstR a) ++ ((k, .whl r a) :: left))], P + (lstR a).length) else ([(some b, left)], P)) := rfl
    rw [em]
    cases hr : r.tv b f with
    | true =>
      rw [if_pos rfl, fm1 (beh_nil inb rfl hr), fm0 (beh_no (by rw [not_tv, hr]; rfl))]
      exact ⟨by show P ≤ P + _; omega, by show 1 ≤ 10; decide, one (o := some b) ⟨new_todo hP hm2 (hc P) T0, by omega⟩⟩
    | false =>
      rw [if_neg Bool.false_ne_true, fm0 (beh_no hr), fm1 (beh_nil inb rfl (by rw [not_tv, hr]; rfl))]
      exact ⟨Int.le_refl _, by show 1 ≤ 10; decide, one (o := some b) ⟨t4, le0⟩⟩
  | iff r a c =>
    have ok : (Row.iff r a c).Ok E 3 := rk.elim id (fun z => by cases z)
    have nl := new_len (P := P) (left := left) ok.2.1
    have nl2 := new_len (P := P) (left := left) ok.2.2.2.1
    have em : mv num b f st P ((k, .iff r a c) :: left) = (if r.tv b f = true then ([(some b, numb P (lstR a) ++ left)], P + (lstR a).length) else if c = [] then ([(some b, left)], P) else ([(some b, numb P (lstR c) ++ left)], P + (lstR c).length)) := rfl
    rw [em]
    by_cases hc : c = []
    · rw [hc] at ld
      obtain ⟨m, hm2, e, hch⟩ := ld_iff1 ld
      rw [e]
      cases hr : r.tv b f with
      | true =>
        rw [if_pos rfl, fm1 (beh_nil inb rfl hr), fm0 (beh_no (by rw [not_tv, hr]; rfl))]
        exact ⟨by show P ≤ P + _; omega, by show 1 ≤ 10; decide, one (o := some b) ⟨new_todo hP hm2 (hch P) t4, by omega⟩⟩
      | false =>
        rw [if_neg Bool.false_ne_true, if_pos hc, fm0 (beh_no hr), fm1 (beh_nil inb rfl (by rw [not_tv, hr]; rfl))]
        exact ⟨Int.le_refl _, by show 1 ≤ 10; decide, one (o := some b) ⟨t4, le0⟩⟩
    · obtain ⟨m, hm2, e, hch, hch2⟩ := ld_iff2 hc ld
      rw [e]
      cases hr : r.tv b f with
      | true =>
        rw [if_pos rfl, fm1 (beh_nil inb rfl hr), fm0 (beh_no (by rw [not_tv, hr]; rfl))]
        exact ⟨by show P ≤ P + _; omega, by show 1 ≤ 10; decide, one (o := some b) ⟨new_todo hP hm2 (hch P) t4, by omega⟩⟩
      | false =>
        rw [if_neg Bool.false_ne_true, if_neg hc, fm0 (beh_no hr), fm1 (beh_nil inb rfl (by rw [not_tv, hr]; rfl))]
        exact ⟨by show P ≤ P + _; omega, by show 1 ≤ 10; decide, one (o := some b) ⟨new_todo hP (by show 2 ≤ m + 1; omega) (hch2 P) t4, by omega⟩⟩
  | rounds k0 a0 => cases nr
  | label l0 => cases hm
  | say r0 => cases hm
end
end Ca
namespace Ca
open PySem L2
/-! ## books -/
theorem lk_cons {b : Bk} {k x : Str} {v : Int} : lk ((k, v) :: b) x = if x = k then v else lk b x := by
  unfold lk
  rw [List.lookup_cons]
  by_cases e : x = k
  · subst e
    simp
  · have hb : (x == k) = false := beq_eq_false_iff_ne.mpr e
    rw [hb, if_neg e]
theorem lk_zipm (g : Str → Int) : ∀ (ks : List Str) (x : Str), x ∈ ks → lk (ks.zip (ks.map g)) x = g x
  | [], _, h => nomatch h
  | k :: ks, x, h => by
    rw [List.map_cons, List.zip_cons_cons, lk_cons]
    by_cases e : x = k
    · rw [if_pos e, e]
    · rw [if_neg e]
      exact lk_zipm g ks x ((List.mem_cons.mp h).resolve_left e)
theorem book_self : ∀ {t : Bk}, (t.map (·.1)).Nodup → (t.map (·.1)).zip ((t.map (·.1)).map (lk t)) = t
  | [], _ => rfl
  | (k, v) :: t, nd => by
    rw [List.map_cons, List.nodup_cons] at nd
    have ih := book_self nd.2
    rw [List.map_cons, List.map_cons, List.zip_cons_cons]
    have e1 : lk ((k, v) :: t) k = v := by rw [lk_cons, if_pos rfl]
    have e2 : (t.map (·.1)).map (lk ((k, v) :: t)) = (t.map (·.1)).map (lk t) := by
      refine List.map_congr_left fun x hx => ?_
      rw [lk_cons, if_neg]
      intro z
      exact nd.1 (by rw [← z]; exact hx)
    show (k, lk ((k, v) :: t) k) :: (t.map (·.1)).zip ((t.map (·.1)).map (lk ((k, v) :: t))) = _
    rw [e1, e2, ih]
theorem lk_putM {x y : Str} {v : Int} : ∀ {b : Bk}, y ∈ b.map (·.1) → lk (putM b x v) y = if y = x then v else lk b y
  | [], h => nomatch h
  | (k, i) :: b, h => by
    show lk ((if k = x then (k, v) else (k, i)) :: putM b x v) y = _
    by_cases e : y = k
    · subst e
      by_cases e2 : y = x
      · rw [if_pos e2, if_pos e2, lk_cons, if_pos rfl]
      · rw [if_neg e2, if_neg e2, lk_cons, lk_cons, if_pos rfl, if_pos rfl]
    · have hm : y ∈ b.map (·.1) := (List.mem_cons.mp h).resolve_left e
      have ih := lk_putM (x := x) (v := v) hm
      by_cases e2 : k = x
      · rw [if_pos e2, lk_cons, if_neg e, ih]
        by_cases e3 : y = x
        · exact absurd (e3.trans e2.symm) e
        · rw [if_neg e3, if_neg e3, lk_cons, if_neg e]
      · rw [if_neg e2, lk_cons, if_neg e, ih]
        by_cases e3 : y = x
        · rw [if_pos e3, if_pos e3]
        · rw [if_neg e3, if_neg e3, lk_cons, if_neg e]
theorem lk_putB {b : Bk} {x y : Str} {v : Int} (hx : x ∈ b.map (·.1)) (hy : y ∈ b.map (·.1)) : lk (putB b x v) y = if y = x then v else lk b y := by
  rw [put_mem hx]
  exact lk_putM hy
/-! ## remarks -/
theorem holds_tv {N Hs : List Str} {b ps : Bk} {f0 : Str → Str → Int} {f : Str → Str → Bool} (hf : ∀ x ∈ Hs, ∀ l : Str, (l = "lab" ∨ l = "fin") → decide (lk ps x = f0 x l) = f x l) : ∀ (n : Nat) (r : Rk), r.Ok N Hs n → (r.plc f0).holds b ps = r.tv b f
  | 0, _, h => h.elim
  | n + 1, .most s, h => rfl
  | n + 1, .rest s m, h => rfl
  | n + 1, .at x p, h => by
    rcases h.2.2 with e | e
    · rw [e]
      exact hf x h.1 _ (.inl rfl)
    · rw [e]
      exact hf x h.1 _ (.inr rfl)
  | n + 1, .not r, h => by
    show (!(r.plc f0).holds b ps) = !r.tv b f
    rw [holds_tv hf n r h]
  | n + 1, .and rs, h => by
    show (Rk.hs b ps (Rk.plcs f0 rs)).all id = (Rk.tvs b f rs).all id
    rw [Rk.plcs_eq, Rk.hs_eq, Rk.tvs_eq, List.map_map]
    congr 1
    exact List.map_congr_left fun r hr => holds_tv hf n r (h.2 r hr)
  | n + 1, .or rs, h => by
    show (Rk.hs b ps (Rk.plcs f0 rs)).any id = (Rk.tvs b f rs).any id
    rw [Rk.plcs_eq, Rk.hs_eq, Rk.tvs_eq, List.map_map]
    congr 1
    exact List.map_congr_left fun r hr => holds_tv hf n r (h.2 r hr)
/-! ## where a hand is -/
structure HSim (S : List Stp) (E : En) (h : Str) (num P : Int) (L : Nat) (t : Tdo) (p : Int) : Prop where
  todo : ∃ e r, t.first = e :: r ∧ e.1 ≤ P ∧ isRd e.2 = false ∧ Todo S E h num e.1 t.first t.rest p
  hd : ∀ e r, t.rest = e :: r → isRd e.2 = false
  len : t.rest.length ≤ L
  ly : t.L
theorem HSim.mono {S : List Stp} {E : En} {h : Str} {num P P' : Int} {L L' : Nat} {t : Tdo} {p : Int} (a : HSim S E h num P L t p) (hP : P ≤ P') (hL : L ≤ L') : HSim S E h num P' L' t p := by
  obtain ⟨e, r, h1, h2, h3⟩ := a.todo
  exact ⟨⟨e, r, h1, by omega, h3⟩, a.hd, by have := a.len; omega, a.ly⟩
theorem todo_fin {S : List Stp} {E : En} {h : Str} {num fk : Int} {first es : List Ent} {p : Int} (t : Todo S E h num fk first es p) : es.isEmpty = decide (p = 1) := by
  cases es with
  | nil => exact (decide_eq_true (show p = 1 from t)).symm
  | cons e r => exact (decide_eq_false t.1).symm
theorem todo_lay {S : List Stp} {E : En} {h : Str} {num fk : Int} {first : List Ent} : ∀ {es : List Ent} {p : Int}, Todo S E h num fk first es p → ∀ e ∈ es, RkG E 3 e.2 ∧ e.2.mark = false
  | [], _, _, _, hm => nomatch hm
  | e :: r, p, ⟨_, _, _, q, l, t⟩, x, hx => by
    rcases List.mem_cons.mp hx with z | z
    · rw [z]
      exact ld_rk l
    · exact todo_lay t x z
theorem todo_lab {S : List Stp} {E : En} {h : Str} {num : Int} {e : Ent} {r es : List Ent} {p : Int} (ly : ∀ x ∈ e :: r, EntL x) (t : Todo S E h num e.1 (e :: r) es p) : PyData.eqv (.list ((e :: r).map entD)) (.list (es.map entD)) = decide (p = 0) := by
  cases es with
  | nil =>
    have z : p = 1 := t
    rw [z]
    rfl
  | cons x y =>
    obtain ⟨_, t2, t3, _⟩ := t
    by_cases k : x.1 = e.1
    · obtain ⟨z1, z2⟩ := t2 k
      rw [z2, z1]
      exact SeqAt.eqv_refl _ (lay_lst (k := 21) (lay_m fun e he => lay_tup (lay2 (lay_int _) (ly e he)))).1
    · rw [decide_eq_false (t3 k)]
      have ne : (PyData.int e.1).eqv (.int x.1) = false := by
        show (e.1 == x.1) = false
        exact beq_eq_false_iff_ne.mpr fun z => k z.symm
      show ((entD e).eqv (entD x) && _) = false
      have e2 : (entD e).eqv (entD x) = false := by
        show ((PyData.int e.1).eqv (.int x.1) && _) = false
        rw [ne]
        rfl
      rw [e2]
      rfl
theorem atV_eq {S : List Stp} {E : En} {h : Str} {num P : Int} {L : Nat} {t : Tdo} {p : Int} (a : HSim S E h num P L t p) {f0 : Str → Int} (h1 : f0 "lab" = if t.flag = true then 1 else 0) (h2 : f0 "fin" = 1) {l : Str} (hl : l = "lab" ∨ l = "fin") : decide (p = f0 l) = atV t l := by
  obtain ⟨e, r, ef, _, _, td⟩ := a.todo
  unfold atV
  rcases hl with rfl | rfl
  · rw [h1]
    cases hf : t.flag with
    | true =>
      rw [if_pos rfl, if_neg (fun z => nomatch z.2), todo_fin td]
    | false =>
      rw [if_neg Bool.false_ne_true, if_pos ⟨rfl, rfl⟩, ef]
      rw [ef] at td
      exact (todo_lab (by rw [← ef]; exact a.ly.1) td).symm
  · rw [h2, if_neg (fun z => absurd z.1 (by decide +kernel)), todo_fin td]
/-! ## the machine's ways -/
def after (pg : Pg) (ps : List Int) (h : Str) (q : Int) : List Int := pg.hn.map (lk (putB (pg.plcs ps) h q))
def vals (pg : Pg) (t : Bk) : List Int := pg.boxes.map fun b => lk t b.name
theorem range_fm {α β : Type} (g : α → Option β) : ∀ l : List α, (List.range l.length).filterMap (fun k => (l[k]?).bind g) = l.filterMap g
  | [] => rfl
  | a :: l => by
    rw [List.length_cons, List.range_succ_eq_map, List.filterMap_cons, List.filterMap_cons, List.filterMap_map]
    have e0 : ((a :: l)[0]?).bind g = g a := rfl
    rw [e0]
    have e1 : (List.range l.length).filterMap ((fun k => ((a :: l)[k]?).bind g) ∘ Nat.succ) = l.filterMap g := by
      rw [← range_fm g l]
      rfl
    rw [e1]
theorem ways_steps (pg : Pg) (ps vs : List Int) (h : Str) : waysL pg ps vs h = pg.steps.filterMap (wayS pg ps vs h) := by
  rw [← range_fm]
  unfold waysL canL
  generalize List.range pg.steps.length = rl
  induction rl with
  | nil => rfl
  | cons k r ih =>
    rw [List.filter_cons, List.filterMap_cons]
    cases e : pg.steps[k]? with
    | none =>
      have e1 : ((none : Option Stp).bind (behind pg ps vs)).isSome = false := rfl
      have e2 : (none : Option Stp).bind (wayS pg ps vs h) = none := rfl
      rw [e1, e2, if_neg Bool.false_ne_true]
      exact ih
    | some s =>
      have e1 : (some s).bind (behind pg ps vs) = behind pg ps vs s := rfl
      have e2 : (some s).bind (wayS pg ps vs h) = wayS pg ps vs h s := rfl
      rw [e1, e2]
      cases eb : behind pg ps vs s with
      | none =>
        have ew : wayS pg ps vs h s = none := by
          unfold wayS
          rw [eb]
          by_cases c : s.hand = h
          · rw [if_pos c]
            rfl
          · rw [if_neg c]
        have e3 : (none : Option (List Int × List Int)).isSome = false := rfl
        rw [ew, e3, if_neg Bool.false_ne_true]
        exact ih
      | some z =>
        have e3 : (some z).isSome = true := rfl
        rw [e3, if_pos rfl, List.filterMap_cons, e, e2]
        cases wayS pg ps vs h s with
        | none => exact ih
        | some y => exact congrArg (y :: ·) ih
theorem paired_with {α β : Type} {R : α → β → Prop} {Pr : β → Prop} : ∀ {xs : List α} {ys : List β}, Paired R xs ys → (∀ y ∈ ys, Pr y) → Paired (fun x y => R x y ∧ Pr y) xs ys
  | _, _, .nil, _ => .nil
  | _, _, .cons h t, p => .cons ⟨h, p _ List.mem_cons_self⟩ (paired_with t fun y hy => p y (List.mem_cons_of_mem _ hy))
theorem paired_map {α β γ : Type} {R : α → γ → Prop} {g : β → γ} : ∀ {xs : List α} {ys : List β}, Paired (fun x y => R x (g y)) xs ys → Paired R xs (ys.map g)
  | _, _, .nil => .nil
  | _, _, .cons h t => .cons h (paired_map t)
theorem paired_imp {α β : Type} {R R' : α → β → Prop} (e : ∀ x y, R x y → R' x y) : ∀ {xs : List α} {ys : List β}, Paired R xs ys → Paired R' xs ys
  | _, _, .nil => .nil
  | _, _, .cons h t => .cons (e _ _ h) (paired_imp e t)
end Ca
namespace Ca
open PySem L2
structure Stat (pg : Pg) (S : List Stp) (f0 : Str → Str → Int) (Ef : Str → En) (st : Str4) : Prop where
  ok : pg.Ok
  steps : pg.steps = S.map (Stp.plc f0)
  en : ∀ h ∈ pg.hn, (∀ x ∈ (Ef h).mine ++ (Ef h).locks, x ∈ pg.bn) ∧ ∀ x ∈ (Ef h).hands, x ∈ pg.hn
  inn : ∀ h ∈ pg.hn, ∀ s ∈ S, s.hand = h → StIn (Ef h) h (fun _ => True) s
  fin : ∀ h ∈ pg.hn, f0 h "fin" = 1
  nof : ∀ h ∈ pg.hn, outs S h 1 = []
  st : st.map (fun q => (q.1, q.2.2)) = pg.boxes.map fun b => (b.name, b.low, b.high)
structure Sim (pg : Pg) (S : List Stp) (f0 : Str → Str → Int) (Ef : Str → En) (st : Str4) (ps vs : List Int) (b : Bk) (td : Tds) (P : Int) (L : Nat) : Prop where
  bk : b = pg.book vs
  vl : vs.length = pg.boxes.length
  pl : ps.length = pg.hands.length
  inr : inS st b = true
  hs : ∀ (k : Nat) (h : Str), pg.hn[k]? = some h → ∃ t, lkp td h = some t ∧ HSim S (Ef h) h ((k : Int) + 1) P L t (lk (pg.plcs ps) h) ∧ f0 h "lab" = if t.flag = true then 1 else 0
section
variable {pg : Pg} {S : List Stp} {f0 : Str → Str → Int} {Ef : Str → En} {st : Str4} {ps vs : List Int} {b : Bk} {td : Tds} {P : Int} {L : Nat}
theorem bn_len (pg : Pg) : pg.bn.length = pg.boxes.length := List.length_map _
theorem hn_len (pg : Pg) : pg.hn.length = pg.hands.length := List.length_map _
theorem Sim.keys (m : Sim pg S f0 Ef st ps vs b td P L) : b.map (·.1) = pg.bn := by
  rw [m.bk]
  exact zip_keys (by rw [m.vl, bn_len])
theorem Sim.pkeys (m : Sim pg S f0 Ef st ps vs b td P L) : (pg.plcs ps).map (·.1) = pg.hn := zip_keys (by rw [m.pl, hn_len])
theorem Sim.at_ (c : Stat pg S f0 Ef st) (m : Sim pg S f0 Ef st ps vs b td P L) : ∀ x ∈ pg.hn, ∀ l : Str, (l = "lab" ∨ l = "fin") → decide (lk (pg.plcs ps) x = f0 x l) = atT td x l := fun x hx l hl => by
  obtain ⟨k, hk⟩ := List.getElem?_of_mem hx
  obtain ⟨t, h1, h2, h3⟩ := m.hs k x hk
  unfold atT
  rw [h1]
  exact atV_eq h2 h3 (c.fin x hx) hl
theorem inS_inR (c : Stat pg S f0 Ef st) (t : Bk) : inS st t = inR pg t := by
  unfold inS inR
  have e1 : (st.all fun p => decide (p.2.2.1 ≤ lk t p.1) && decide (lk t p.1 ≤ p.2.2.2)) = (st.map fun q => (q.1, q.2.2)).all fun p : Str × Int × Int => decide (p.2.1 ≤ lk t p.1) && decide (lk t p.1 ≤ p.2.2) := by
    rw [List.all_map]
    rfl
  rw [e1, c.st, List.all_map]
  rfl
theorem vals_book (c : Stat pg S f0 Ef st) {t : Bk} (h : t.map (·.1) = pg.bn) : pg.book (vals pg t) = t := by
  have e : vals pg t = pg.bn.map (lk t) := by
    unfold vals Pg.bn
    rw [List.map_map]
    rfl
  unfold Pg.book
  rw [e, ← h]
  exact book_self (by rw [h]; exact c.ok.bnd)
theorem setB_bn (m : Sim pg S f0 Ef st ps vs b td P L) {ss : List (Str × Sm)} (h : ∀ q ∈ ss, q.1 ∈ pg.bn) : (setB b ss).map (·.1) = pg.bn := by
  unfold setB
  rw [setB_keys (b := b) (fun q hq => by rw [m.keys]; exact h q hq) rfl]
  exact m.keys
theorem way_of (c : Stat pg S f0 Ef st) (m : Sim pg S f0 Ef st ps vs b td P L) {h : Str} (hh : h ∈ pg.hn) {s : Stp} (hs : s ∈ S) :
    wayS pg ps vs h (s.plc f0) = if s.hand = h ∧ s.frm = lk (pg.plcs ps) h then (beh st b (atT td) s).map (fun y => (y.1, after pg ps h y.2, vals pg y.1)) else none := by
  unfold wayS
  have eh : (s.plc f0).hand = s.hand := rfl
  rw [eh]
  by_cases e1 : s.hand = h
  · rw [if_pos e1]
    have i := c.inn h hh s hs e1
    have hg : (s.guard.plc f0).holds b (pg.plcs ps) = s.guard.tv b (atT td) := holds_tv (fun x hx l hl => m.at_ c x ((c.en h hh).2 x hx) l hl) 3 s.guard i.guard
    have hk := setB_bn m (ss := s.sets) fun q hq => (c.en h hh).1 _ (i.sets.2 q hq).1
    unfold behind
    rw [← m.bk]
    have e2 : (s.plc f0).frm = s.frm := rfl
    have e3 : (s.plc f0).guard = s.guard.plc f0 := rfl
    have e4 : (s.plc f0).sets = s.sets := rfl
    have e5 : (s.plc f0).to = s.to := rfl
    rw [eh, e2, e3, e4, e5, e1, hg]
    by_cases e6 : s.frm = lk (pg.plcs ps) h
    · rw [if_pos (show h = h ∧ s.frm = lk (pg.plcs ps) h from ⟨rfl, e6⟩)]
      unfold beh
      by_cases e7 : s.guard.tv b (atT td) = true
      · rw [if_pos ⟨e6.symm, e7⟩, if_pos e7]
        unfold setS valuesB
        rw [← inS_inR c]
        by_cases e8 : inS st (setB b s.sets) = true
        · rw [if_pos e8, if_pos e8]
          show some (pg.book (vals pg (setB b s.sets)), _, _) = some (setB b s.sets, after pg ps h s.to, vals pg (setB b s.sets))
          rw [vals_book c hk]
          rfl
        · rw [if_neg e8, if_neg e8]
          rfl
      · rw [if_neg (fun z => e7 z.2), if_neg e7]
        rfl
    · rw [if_neg (fun z => e6 z.1.symm), if_neg (fun z : h = h ∧ s.frm = lk (pg.plcs ps) h => e6 z.2)]
      rfl
  · rw [if_neg e1, if_neg (fun z => e1 z.1)]
theorem ways_eq (c : Stat pg S f0 Ef st) (m : Sim pg S f0 Ef st ps vs b td P L) {h : Str} (hh : h ∈ pg.hn) :
    waysL pg ps vs h = ((outs S h (lk (pg.plcs ps) h)).filterMap (beh st b (atT td))).map fun y => (y.1, after pg ps h y.2, vals pg y.1) := by
  rw [ways_steps, c.steps, List.filterMap_map, List.map_filterMap]
  unfold outs
  have w : ∀ s ∈ S, (wayS pg ps vs h ∘ Stp.plc f0) s = if s.hand = h ∧ s.frm = lk (pg.plcs ps) h then (beh st b (atT td) s).map (fun y => (y.1, after pg ps h y.2, vals pg y.1)) else none := fun s hs => way_of c m hh hs
  revert w
  generalize S = l
  intro w
  induction l with
  | nil => rfl
  | cons s r ih =>
    have w0 := w s List.mem_cons_self
    have ih := ih fun s hs => w s (List.mem_cons_of_mem _ hs)
    rw [List.filterMap_cons, w0, List.filter_cons]
    by_cases e : s.hand = h ∧ s.frm = lk (pg.plcs ps) h
    · rw [if_pos e, if_pos (decide_eq_true e), List.filterMap_cons, ih]
    · rw [if_neg e, if_neg (by rw [decide_eq_false e]; exact Bool.false_ne_true), ih]
/-- what a step of the law leads to -/
def Jst (pg : Pg) (S : List Stp) (Ef : Str → En) (st : Str4) (ps : List Int) (td : Tds) (P : Int) (L : Nat) (h : Str) (b' : Bk) (es : List Ent) (ps' vs' : List Int) (P' : Int) : Prop :=
  inS st b' = true ∧ b'.map (·.1) = pg.bn ∧ vs' = vals pg b' ∧ P ≤ P' ∧ ∃ q, ps' = after pg ps h q ∧ ∃ k : Nat, pg.hn[k]? = some h ∧ ∃ t, lkp td h = some t ∧ ∃ e r, t.first = e :: r ∧ Todo S (Ef h) h ((k : Int) + 1) e.1 t.first es q ∧ es.length ≤ L + 5
theorem Jst.mono {P0 : Int} {h : Str} {b' : Bk} {es : List Ent} {ps' vs' : List Int} {P1 P2 : Int} (e : P1 ≤ P2) (j : Jst pg S Ef st ps td P0 L h b' es ps' vs' P1) : Jst pg S Ef st ps td P0 L h b' es ps' vs' P2 := ⟨j.1, j.2.1, j.2.2.1, by have := j.2.2.2.1; omega, j.2.2.2.2⟩
theorem beh_mem {f : Str → Str → Bool} {s : Stp} {y : Bk × Int} (h : beh st b f s = some y) : inS st y.1 = true ∧ y.1 = setB b s.sets := by
  unfold beh at h
  by_cases e : s.guard.tv b f = true
  · rw [if_pos e] at h
    unfold setS at h
    by_cases e2 : inS st (setB b s.sets) = true
    · rw [if_pos e2] at h
      cases h
      exact ⟨e2, rfl⟩
    · rw [if_neg e2] at h
      cases h
  · rw [if_neg e] at h
    cases h
theorem sim_enb (c : Stat pg S f0 Ef st) (m : Sim pg S f0 Ef st ps vs b td P L) {h : Str} (hh : h ∈ pg.hn) : EnB (Ef h) b td := ⟨fun x hx => by rw [m.keys]; exact (c.en h hh).1 x hx, fun x hx => by
  obtain ⟨k, hk⟩ := List.getElem?_of_mem ((c.en h hh).2 x hx)
  obtain ⟨t, ht, _⟩ := m.hs k x hk
  exact ⟨t, ht⟩⟩
theorem sim_goes (c : Stat pg S f0 Ef st) (m : Sim pg S f0 Ef st ps vs b td P L) (hL : L ≤ 90000) (k : Nat) (h : Str) (hk : pg.hn[k]? = some h) : ∃ t E, lkp td h = some t ∧ (∀ e r, t.rest = e :: r → RkG E 3 e.2 ∧ e.2.mark = false ∧ isRd e.2 = false) ∧ t.rest.length ≤ 90000 ∧ EnB E b td ∧
    ∀ P', P ≤ P' → P' ≤ (mv ((k : Int) + 1) b (atT td) st P' t.rest).2 ∧ (mv ((k : Int) + 1) b (atT td) st P' t.rest).1.length ≤ 10 ∧
      Paired (fun (m : Bk × List Ent) (w : Wy) => m.1 = w.1 ∧ (m.1.map (·.1)).Nodup ∧ Jst pg S Ef st ps td P L h m.1 m.2 w.2.1 w.2.2 (mv ((k : Int) + 1) b (atT td) st P' t.rest).2) (mvF (mv ((k : Int) + 1) b (atT td) st P' t.rest).1) (waysL pg ps vs h) := by
  have hh := List.mem_of_getElem? hk
  obtain ⟨t, ht, hm, hf⟩ := m.hs k h hk
  obtain ⟨e0, r0, e1, e2, e3, e4⟩ := hm.todo
  have e4' := e4
  refine ⟨t, Ef h, ht, fun e r er => ?_, by have := hm.len; omega, sim_enb c m hh, fun P' hP => ?_⟩
  · obtain ⟨a1, a2⟩ := todo_lay e4 e (by rw [er]; exact List.mem_cons_self)
    exact ⟨a1, a2, hm.hd e r er⟩
  · rw [ways_eq c m hh]
    cases er : t.rest with
    | nil =>
      rw [er] at e4
      have ep : lk (pg.plcs ps) h = 1 := e4
      rw [ep, c.nof h hh]
      exact ⟨Int.le_refl _, Nat.zero_le _, .nil⟩
    | cons x left =>
      obtain ⟨kx, sx⟩ := x
      rw [er] at e4
      have hlen := hm.len
      rw [er, List.length_cons] at hlen
      obtain ⟨i1, i2, i3⟩ := mv_sim (num := (k : Int) + 1) (f := atT td) (P := P') e4 (hm.hd _ _ er) m.inr (fun x hx => by rw [m.keys]; exact (c.en h hh).1 x (List.mem_append_left _ hx)) (by omega)
      refine ⟨i1, i2, paired_map (paired_imp (fun x y z => ?_) (paired_with (Pr := fun y => inS st y.1 = true ∧ y.1.map (·.1) = pg.bn) i3 fun y hy => ?_))⟩
      · obtain ⟨⟨z1, z2, z3⟩, z4, z5⟩ := z
        rw [← z1] at z4 z5
        refine ⟨z1, by rw [z5]; exact c.ok.bnd, z4, z5, by rw [z1], by omega, y.2, rfl, k, hk, t, ht, e0, r0, e1, z2, by omega⟩
      · obtain ⟨s, hs, eb⟩ := List.mem_filterMap.mp hy
        obtain ⟨b1, b2⟩ := beh_mem eb
        refine ⟨b1, ?_⟩
        rw [b2]
        have hsS := (List.mem_filter.mp hs).1
        have hsh := (of_decide_eq_true (List.mem_filter.mp hs).2).1
        exact setB_bn m fun q hq => (c.en h hh).1 _ ((c.inn h hh s hsS hsh).sets.2 q hq).1
/-! ## a step -/
def putL {α : Type} (l : List (Str × α)) (x : Str) (v : α) : List (Str × α) := l.map fun p => if p.1 = x then (p.1, v) else p
theorem putL_keys {α : Type} (l : List (Str × α)) (x : Str) (v : α) : (putL l x v).map (·.1) = l.map (·.1) := by
  unfold putL
  rw [List.map_map]
  refine List.map_congr_left fun p _ => ?_
  show (if p.1 = x then (p.1, v) else p).1 = p.1
  by_cases hp : p.1 = x
  · rw [if_pos hp]
  · rw [if_neg hp]
theorem lkp_cons {α : Type} {k x : Str} {v : α} {l : List (Str × α)} : lkp ((k, v) :: l) x = if k = x then some v else lkp l x := by
  unfold lkp
  rw [List.find?_cons]
  by_cases e : k = x
  · rw [if_pos e]
    show ((match decide (k = x) with | true => some (k, v) | false => _ : Option (Str × α)).map (fun p => p.2)) = _
    rw [decide_eq_true e]
    rfl
  · rw [if_neg e]
    show ((match decide (k = x) with | true => some (k, v) | false => _ : Option (Str × α)).map (fun p => p.2)) = _
    rw [decide_eq_false e]
theorem lkp_putL {α : Type} {x y : Str} {v : α} : ∀ {l : List (Str × α)}, lkp (putL l x v) y = if y = x then (lkp l y).map (fun _ => v) else lkp l y
  | [] => by
    show (none : Option α) = if y = x then none else none
    by_cases e : y = x
    · rw [if_pos e]
    · rw [if_neg e]
  | (k, i) :: l => by
    have ih := lkp_putL (x := x) (y := y) (v := v) (l := l)
    show lkp ((if k = x then (k, v) else (k, i)) :: putL l x v) y = _
    by_cases e : k = x
    · rw [if_pos e, lkp_cons, lkp_cons, ih]
      by_cases e2 : k = y
      · rw [if_pos e2, if_pos e2, if_pos (e2.symm.trans e)]
        rfl
      · rw [if_neg e2, if_neg e2]
    · rw [if_neg e, lkp_cons, lkp_cons, ih]
      by_cases e2 : k = y
      · rw [if_pos e2, if_pos e2, if_neg (fun z => e (e2.trans z))]
      · rw [if_neg e2, if_neg e2]
theorem opn_len {E : En} : ∀ (n : Nat) (P : Int) (es : List Ent), HdG E n es → (opn n P es).1.length ≤ es.length + 12 * n
  | 0, _, _, _ => Nat.le_refl _
  | n + 1, P, [], _ => Nat.zero_le _
  | n + 1, P, (pn, row) :: r, hd => by
    cases hr : isRd row with
    | false =>
      rw [opn_no hr]
      exact Nat.le_add_right _ _
    | true =>
      obtain ⟨k, a, rfl⟩ := isRd_of hr
      rw [opn_rd]
      have hk : RkG E (n + 1) (.rounds k a) := hd
      have hok : (Row.rounds k a).Ok E (n + 1) := hk.elim id (fun z => by cases z)
      have hlen : ((List.replicate k.toNat a).flatten).length ≤ 12 := by
        rw [rep_len]
        have h0 := hok.1
        have h1 := hok.2.1
        have : k.toNat * a.length ≤ 3 * 4 := Nat.mul_le_mul (by omega) hok.2.2.1
        omega
      have hl2 : (lstR (List.replicate k.toNat a).flatten).length ≤ 12 := by
        unfold lstR
        by_cases e : stm (List.replicate k.toNat a).flatten = []
        · rw [if_pos e]
          show 1 ≤ 12
          omega
        · rw [if_neg e]
          have : (stm (List.replicate k.toNat a).flatten).length ≤ ((List.replicate k.toNat a).flatten).length := List.length_filter_le _ _
          omega
      have hd2 : HdG E n (numb P (lstR (List.replicate k.toNat a).flatten) ++ r) := by
        have g := lstR_ok (E := E) (n := n) (rs := (List.replicate k.toNat a).flatten) fun x hx _ => hok.2.2.2 x (mem_rep hx)
        cases e9 : lstR (List.replicate k.toNat a).flatten with
        | nil => exact absurd e9 (lstR_ne _)
        | cons r0 rr => exact g r0 (by rw [e9]; exact List.mem_cons_self)
      have ih := opn_len n (P + (lstR (List.replicate k.toNat a).flatten).length) _ hd2
      rw [List.length_append, numb_len] at ih
      rw [List.length_cons]
      omega
theorem todo_hdg {E : En} {h : Str} {num fk : Int} {first es : List Ent} {p : Int} (t : Todo S E h num fk first es p) : HdG E 3 es := by
  cases es with
  | nil => trivial
  | cons e r => exact (todo_lay t e List.mem_cons_self).1
theorem after_lk (m : Sim pg S f0 Ef st ps vs b td P L) {h x : Str} {q : Int} (hh : h ∈ pg.hn) (hx : x ∈ pg.hn) : lk (pg.plcs (after pg ps h q)) x = if x = h then q else lk (pg.plcs ps) x := by
  unfold Pg.plcs after
  rw [lk_zipm _ _ _ hx]
  exact lk_putB (by rw [m.pkeys]; exact hh) (by rw [m.pkeys]; exact hx)
theorem sim_step (c : Stat pg S f0 Ef st) (m : Sim pg S f0 Ef st ps vs b td P L) {h : Str} {b' : Bk} {es : List Ent} {ps' vs' : List Int} {P' : Int} (j : Jst pg S Ef st ps td P L h b' es ps' vs' P') : h ∈ pg.hn ∧ ∃ t, lkp td h = some t ∧ HdG (Ef h) 3 es ∧ es.length ≤ L + 5 ∧ P' ≤ (opn 3 P' es).2 ∧
    Tdo.L ⟨t.first, (opn 3 P' es).1, t.flag⟩ ∧ ∀ P'', (opn 3 P' es).2 ≤ P'' → Sim pg S f0 Ef st ps' vs' b' (putL td h ⟨t.first, (opn 3 P' es).1, t.flag⟩) P'' (L + 50) := by
  obtain ⟨j1, j2, j3, j4, q, j5, k, hk, t, ht, e, r, j6, j7, j8⟩ := j
  have hh := List.mem_of_getElem? hk
  obtain ⟨t', ht', hm, hf⟩ := m.hs k h hk
  rw [ht] at ht'
  cases ht'
  obtain ⟨e0, r0, e1, e2, e3, e4⟩ := hm.todo
  rw [e1] at j6
  have j6' := List.cons.inj j6
  have j6e := j6'.1
  subst j6e
  have hdg := todo_hdg j7
  obtain ⟨o1, o2, o3⟩ := opn_todo (P := P') (fun x y z => by rw [e1] at z; cases z; exact e3) (by omega) j7 hdg
  have oL := opn_len 3 P' es hdg
  have hl : Tdo.L ⟨t.first, (opn 3 P' es).1, t.flag⟩ := ⟨hm.ly.1, fun x hx => rkg_lay (by omega) (todo_lay o1 x hx).1⟩
  refine ⟨hh, t, ht, hdg, j8, o2, hl, fun P'' hP => ⟨?_, ?_, ?_, j1, fun k2 h2 hk2 => ?_⟩⟩
  · rw [j3]
    exact (vals_book c j2).symm
  · rw [j3]
    exact List.length_map _
  · rw [j5]
    unfold after
    rw [List.length_map, hn_len]
  · have hh2 := List.mem_of_getElem? hk2
    rw [j5, after_lk m hh hh2, lkp_putL]
    by_cases ex : h2 = h
    · rw [if_pos ex, if_pos ex]
      subst ex
      have ek : k2 = k := by
        have n1 := (List.getElem?_eq_some_iff.mp hk).1
        exact ((List.getElem?_inj n1 c.ok.hnd).mp (hk.trans hk2.symm)).symm
      subst ek
      rw [ht]
      exact ⟨_, rfl, ⟨⟨e0, r0, e1, by omega, e3, o1⟩, o3, by show (opn 3 P' es).1.length ≤ _; omega, hl⟩, hf⟩
    · rw [if_neg ex, if_neg ex]
      obtain ⟨t2, ht2, hm2, hf2⟩ := m.hs k2 h2 hk2
      exact ⟨t2, ht2, hm2.mono (by omega) (by omega), hf2⟩
end
end Ca
namespace Ca
open PySem L2
/-! ## labels -/
def labA (lb : List (Str × Int)) (l : Str) : Int := ((lb.find? fun p => decide (p.1 = l)).map (·.2)).getD 0
theorem layC_mark {S : SRel} {r : Row} {rs : List Row} {p q m : Int} {st : List Stp} {lb : List (Str × Int)} {m' : Int} (hm : r.mark = true) (h : LayC S (r :: rs) p q m st lb m') : ∃ lb', lb = labOf r p ++ lb' ∧ LayC S rs p q m st lb' m' := by
  unfold LayC at h
  rw [if_pos hm] at h
  exact h
theorem layC_fin {S : SRel} : ∀ {rs : List Row} {p q m : Int} {st : List Stp} {lb : List (Str × Int)} {m' : Int}, lbs rs = [] → LayC S (rs ++ [.label "fin"]) p q m st lb m' → lb = [(("fin" : Str), if stm rs = [] then p else q)]
  | [], p, q, m, st, lb, m', _, h => by
    obtain ⟨lb', e1, e2⟩ := layC_mark (r := .label "fin") (rs := []) rfl h
    rw [e1, e2.2.1, if_pos (show stm ([] : List Row) = [] from rfl)]
    rfl
  | r :: rs, p, q, m, st, lb, m', e, h => by
    rw [List.cons_append] at h
    unfold LayC at h
    have e2 : lbs rs = [] ∧ labOf r p = [] := by cases r <;> first | exact ⟨e, rfl⟩ | exact nomatch e
    have es : stm (rs ++ [.label "fin"]) = stm rs := by
      unfold stm
      rw [List.filter_append]
      exact List.append_nil _
    by_cases hm : r.mark = true
    · rw [if_pos hm] at h
      obtain ⟨lb', h1, h2⟩ := h
      rw [h1, e2.2, stm_mark hm]
      exact layC_fin e2.1 h2
    · rw [if_neg hm, es] at h
      rw [stm_cons (by cases z : r.mark with | true => exact absurd z hm | false => rfl), if_neg (fun z => nomatch z)]
      by_cases hs : stm rs = []
      · rw [if_pos hs] at h
        obtain ⟨st1, st2, m1, h1, h2, h3⟩ := h
        have z := layC_fin e2.1 h3
        rw [if_pos hs] at z
        exact z
      · rw [if_neg hs] at h
        obtain ⟨st1, st2, m1, h1, h2, h3⟩ := h
        have z := layC_fin e2.1 h3
        rw [if_neg hs] at z
        exact z
theorem stm_lbf (rs : List Row) : stm ([.label "lab"] ++ rs ++ [.label "fin"]) = stm rs := by
  unfold stm
  rw [List.filter_append, List.filter_append]
  show [] ++ rs.filter _ ++ [] = _
  rw [List.append_nil, List.nil_append]
theorem layR_labs {h : Str} {S : SRel} {rs : List Row} {m : Int} {st : List Stp} {lb : List (Str × Int)} {m' : Int} (e : lbs rs = []) (k : LayR h S ([.label "lab"] ++ rs ++ [.label "fin"]) 0 1 m st lb m') : labA lb "lab" = (if stm rs = [] then 1 else 0) ∧ labA lb "fin" = 1 := by
  unfold LayR at k
  rw [stm_lbf] at k
  by_cases hs : stm rs = []
  · rw [if_pos hs] at k ⊢
    obtain ⟨st', e1, k⟩ := k
    obtain ⟨lb', e2, k⟩ := layC_mark (r := .label "lab") (rs := rs ++ [.label "fin"]) rfl k
    have z := layC_fin e k
    rw [if_pos hs] at z
    rw [e2, z]
    exact ⟨rfl, rfl⟩
  · rw [if_neg hs] at k ⊢
    obtain ⟨lb', e2, k⟩ := layC_mark (r := .label "lab") (rs := rs ++ [.label "fin"]) rfl k
    have z := layC_fin e k
    rw [if_neg hs] at z
    rw [e2, z]
    exact ⟨rfl, rfl⟩
/-! ## the hands -/
theorem layH_in : ∀ {hs : List Hnd} {k : Nat} {st : List Stp} {lb : List ((Str × Str) × Int)} {ms : List (Str × Int)}, (∀ h ∈ hs, ∃ E, ∀ x ∈ h.rows, x.mark = false → Row.Ok E 3 x) → LayH hs k st lb ms → (∀ s ∈ st, s.hand ∈ hs.map Hnd.name) ∧ ∀ p ∈ lb, p.1.1 ∈ hs.map Hnd.name
  | [], _, _, _, _, _, h => by
    rw [h.1, h.2.1]
    exact ⟨fun _ z => (nomatch z), fun _ z => (nomatch z)⟩
  | hd :: hs, k, st, lb, ms, ok, h => by
    obtain ⟨st1, lb1, m1, st2, lb2, ms2, e1, e2, e3, k1, k2⟩ := h
    obtain ⟨i1, i2⟩ := layH_in (fun x hx => ok x (List.mem_cons_of_mem _ hx)) k2
    obtain ⟨E, oE⟩ := ok hd List.mem_cons_self
    obtain ⟨r1, r2⟩ := layR_in (E := E) (fun x hx hm => layS_in 3 x (oE x hx hm)) k1
    rw [e1, e2, List.map_cons]
    refine ⟨fun s hs => ?_, fun p hp => ?_⟩
    · rcases List.mem_append.mp hs with hs | hs
      · rw [(r2 s hs).hand]
        exact List.mem_cons_self
      · exact List.mem_cons_of_mem _ (i1 s hs)
    · rcases List.mem_append.mp hp with hp | hp
      · obtain ⟨x, _, rfl⟩ := List.mem_map.mp hp
        exact List.mem_cons_self
      · exact List.mem_cons_of_mem _ (i2 p hp)
theorem lab0_app1 {h : Str} {lb1 : List (Str × Int)} {lb2 : List ((Str × Str) × Int)} (n : ∀ p ∈ lb2, p.1.1 ≠ h) (l : Str) : lab0 ((lb1.map fun p : Str × Int => ((h, p.1), p.2)) ++ lb2) h l = labA lb1 l := by
  unfold lab0 labA
  have e0 : lb2.find? (fun p => decide (p.1 = (h, l))) = none := List.find?_eq_none.mpr fun p hp => by
    rw [decide_eq_true_iff]
    exact fun z => n p hp (by rw [z])
  rw [List.find?_append, e0, Option.or_none, List.find?_map, Option.map_map]
  have e1 : ((fun p : (Str × Str) × Int => decide (p.1 = (h, l))) ∘ fun p : Str × Int => ((h, p.1), p.2)) = fun p : Str × Int => decide (p.1 = l) := by
    funext p
    show decide ((h, p.1) = (h, l)) = decide (p.1 = l)
    rw [Bool.eq_iff_iff]
    simp
  rw [e1]
  rfl
theorem lab0_app2 {h h' : Str} {lb1 : List (Str × Int)} {lb2 : List ((Str × Str) × Int)} (n : h' ≠ h) (l : Str) : lab0 ((lb1.map fun p : Str × Int => ((h, p.1), p.2)) ++ lb2) h' l = lab0 lb2 h' l := by
  unfold lab0
  have e0 : (lb1.map fun p : Str × Int => ((h, p.1), p.2)).find? (fun p => decide (p.1 = (h', l))) = none := List.find?_eq_none.mpr fun p hp => by
    rw [decide_eq_true_iff]
    obtain ⟨x, _, rfl⟩ := List.mem_map.mp hp
    exact fun z => n (congrArg Prod.fst z).symm
  rw [List.find?_append, e0, Option.none_or]
theorem layH_at : ∀ {hs : List Hnd} {k : Nat} {st : List Stp} {lb : List ((Str × Str) × Int)} {ms : List (Str × Int)}, (∀ h ∈ hs, ∃ E, ∀ x ∈ h.rows, x.mark = false → Row.Ok E 3 x) → (hs.map Hnd.name).Nodup → LayH hs k st lb ms → ∀ (i : Nat) (hd : Hnd), hs[i]? = some hd →
    ∃ st1 lb1 m1, LayR hd.name (LayS hd.name (((k + i : Nat) : Int) + 1) 3) hd.rows 0 1 2 st1 lb1 m1 ∧ (∀ x, outs st hd.name x = outs st1 hd.name x) ∧ (∀ l, lab0 lb hd.name l = labA lb1 l) ∧ ∀ s ∈ st, s.hand = hd.name → s ∈ st1
  | [], _, _, _, _, _, _, _, i, hd, hi => by simp at hi
  | hd0 :: hs, k, st, lb, ms, ok, nd, h, i, hd, hi => by
    obtain ⟨st1, lb1, m1, st2, lb2, ms2, e1, e2, e3, k1, k2⟩ := h
    have ok' : ∀ h ∈ hs, ∃ E, ∀ x ∈ h.rows, x.mark = false → Row.Ok E 3 x := fun x hx => ok x (List.mem_cons_of_mem _ hx)
    obtain ⟨i1, i2⟩ := layH_in ok' k2
    obtain ⟨E, oE⟩ := ok hd0 List.mem_cons_self
    obtain ⟨r1, r2⟩ := layR_in (E := E) (fun x hx hm => layS_in 3 x (oE x hx hm)) k1
    rw [List.map_cons, List.nodup_cons] at nd
    cases i with
    | zero =>
      have eh : hd0 = hd := Option.some.inj hi
      subst eh
      refine ⟨st1, lb1, m1, k1, fun x => ?_, fun l => ?_, fun s hs eh => ?_⟩
      · rw [e1, outs_app, outs_no (a := st2) (fun s hs z _ => nd.1 (by rw [← z]; exact i1 s hs)), List.append_nil]
      · rw [e2, lab0_app1 (fun p hp z => nd.1 (by rw [← z]; exact i2 p hp))]
      · rw [e1] at hs
        rcases List.mem_append.mp hs with hs | hs
        · exact hs
        · exact absurd (by rw [← eh]; exact i1 s hs) nd.1
    | succ i =>
      obtain ⟨u1, u2, u3, a1, a2, a3, a4⟩ := layH_at ok' nd.2 k2 i hd hi
      have hne : hd.name ≠ hd0.name := fun z => nd.1 (by rw [← z]; exact List.mem_map.mpr ⟨hd, List.mem_of_getElem? hi, rfl⟩)
      have ek : k + (i + 1) = k + 1 + i := by omega
      refine ⟨u1, u2, u3, by rw [ek]; exact a1, fun x => ?_, fun l => ?_, fun s hs eh => ?_⟩
      · rw [e1, outs_app, outs_no (a := st1) (fun s hs z _ => hne (by rw [← z]; exact (r2 s hs).hand)), List.nil_append]
        exact a2 x
      · rw [e2, lab0_app2 hne]
        exact a3 l
      · rw [e1] at hs
        rcases List.mem_append.mp hs with hs | hs
        · exact absurd (eh.symm.trans (r2 s hs).hand) hne
        · exact a4 s hs eh
theorem pick {Q : Hnd → En → Prop} : ∀ {hs : List Hnd}, (hs.map Hnd.name).Nodup → (∀ h ∈ hs, ∃ E, Q h E) → ∃ Ef : Str → En, ∀ h ∈ hs, Q h (Ef h.name)
  | [], _, _ => ⟨fun _ => ⟨[], [], [], []⟩, fun _ z => nomatch z⟩
  | hd :: hs, nd, k => by
    rw [List.map_cons, List.nodup_cons] at nd
    obtain ⟨Ef, ih⟩ := pick nd.2 fun h hh => k h (List.mem_cons_of_mem _ hh)
    obtain ⟨E, hE⟩ := k hd List.mem_cons_self
    refine ⟨fun x => if x = hd.name then E else Ef x, fun h hh => ?_⟩
    rcases List.mem_cons.mp hh with e | hh
    · rw [e]
      show Q hd (if hd.name = hd.name then E else Ef hd.name)
      rw [if_pos rfl]
      exact hE
    · show Q h (if h.name = hd.name then E else Ef h.name)
      rw [if_neg (fun z => nd.1 (by rw [← z]; exact List.mem_map.mpr ⟨h, hh, rfl⟩))]
      exact ih h hh
/-! ## remarks that can be asked -/
theorem hok_of {N Hs : List Str} {b ps : Bk} {f0 : Str → Str → Int} (hN : ∀ x ∈ N, x ∈ b.map (·.1)) (hH : ∀ x ∈ Hs, x ∈ ps.map (·.1)) : ∀ (n : Nat) (r : Rk), r.Ok N Hs n → (r.plc f0).HOk b ps n
  | 0, _, h => h.elim
  | n + 1, .most s, h => fun p hp => ⟨hN _ (h.2 p hp).1, (h.2 p hp).2.2.1, (h.2 p hp).2.2.2⟩
  | n + 1, .rest s m, h => ⟨fun p hp => ⟨hN _ (h.1.2 p hp).1, (h.1.2 p hp).2.2.1, (h.1.2 p hp).2.2.2⟩, by have := h.2; omega⟩
  | n + 1, .at x p, h => ⟨hH x h.1, by
      rcases h.2.2 with e | e
      · rw [e]
        exact ⟨_, rfl⟩
      · rw [e]
        exact ⟨_, rfl⟩⟩
  | n + 1, .not r, h => hok_of hN hH n r h
  | n + 1, .and rs, h => by
    show (Rk.plcs f0 rs).length ≤ 10 ∧ ∀ r ∈ Rk.plcs f0 rs, Rk.HOk b ps n r
    rw [Rk.plcs_eq, List.length_map]
    refine ⟨h.1, fun r hr => ?_⟩
    obtain ⟨r', hr', rfl⟩ := List.mem_map.mp hr
    exact hok_of hN hH n r' (h.2 r' hr')
  | n + 1, .or rs, h => by
    show (Rk.plcs f0 rs).length ≤ 10 ∧ ∀ r ∈ Rk.plcs f0 rs, Rk.HOk b ps n r
    rw [Rk.plcs_eq, List.length_map]
    refine ⟨h.1, fun r hr => ?_⟩
    obtain ⟨r', hr', rfl⟩ := List.mem_map.mp hr
    exact hok_of hN hH n r' (h.2 r' hr')
/-! ## names -/
theorem bos_names (T : Tree) : T.bos.map Bo.name = bn T.boxes ++ T.locks ++ (T.hands.map fun h => bn h.owns).flatten := by
  unfold Tree.bos bn
  rw [List.map_append, List.map_append, List.map_map, List.map_map, List.map_flatten, List.map_map]
  congr 1
  · congr 1
    exact List.map_id _
  · congr 1
    refine List.map_congr_left fun h _ => ?_
    show (h.owns.map (Bx.o h.name)).map Bo.name = h.owns.map Bx.name
    rw [List.map_map]
    rfl
theorem nm_sub1 : ∀ hs : List Hnd, ((hs.map fun h => bn h.owns).flatten).Sublist (nmL hs)
  | [] => List.Sublist.refl _
  | h :: hs => by
    show (bn h.owns ++ _).Sublist ((h.name :: bn h.owns) ++ _)
    exact List.Sublist.append (List.sublist_cons_self _ _) (nm_sub1 hs)
theorem nm_sub2 : ∀ hs : List Hnd, (hs.map Hnd.name).Sublist (nmL hs)
  | [] => List.Sublist.refl _
  | h :: hs => by
    show (h.name :: _).Sublist (h.name :: (bn h.owns ++ nmL hs))
    exact List.Sublist.cons_cons _ ((nm_sub2 hs).trans (List.sublist_append_right _ _))
theorem own_len : ∀ {hs : List Hnd}, (∀ h ∈ hs, h.owns.length ≤ 10) → ((hs.map fun h => h.owns.map (Bx.o h.name)).flatten).length ≤ hs.length * 10
  | [], _ => Nat.le_refl _
  | h :: hs, k => by
    rw [List.map_cons, List.flatten_cons, List.length_append, List.length_map, List.length_cons]
    have := own_len fun x hx => k x (List.mem_cons_of_mem _ hx)
    have := k h List.mem_cons_self
    omega
theorem zeros (x : Str) : ∀ (ks : List Str) (n : Nat), lk (ks.zip (List.replicate n (0 : Int))) x = 0
  | [], _ => by rw [List.zip_nil_left]; rfl
  | k :: ks, 0 => by rw [List.replicate_zero, List.zip_nil_right]; rfl
  | k :: ks, n + 1 => by
    rw [List.replicate_succ, List.zip_cons_cons, lk_cons, zeros x ks n]
    by_cases e : x = k
    · rw [if_pos e]
    · rw [if_neg e]
end Ca
namespace Ca
open PySem L2
theorem lk_mem : ∀ {b : Bk} {k : Str} {v : Int}, (b.map (·.1)).Nodup → (k, v) ∈ b → lk b k = v
  | [], _, _, _, h => nomatch h
  | (x, i) :: b, k, v, nd, h => by
    rw [List.map_cons, List.nodup_cons] at nd
    rw [lk_cons]
    rcases List.mem_cons.mp h with e | e
    · cases e
      rw [if_pos rfl]
    · rw [if_neg (fun z => nd.1 (by rw [← z]; exact List.mem_map.mpr ⟨_, e, rfl⟩))]
      exact lk_mem nd.2 e
theorem book_start (pg : Pg) : pg.book (pg.boxes.map Bo.start) = pg.boxes.map fun b => (b.name, b.start) := by
  unfold Pg.book Pg.bn
  generalize pg.boxes = l
  induction l with
  | nil => rfl
  | cons b r ih =>
    rw [List.map_cons, List.map_cons, List.zip_cons_cons, ih, List.map_cons]
theorem in_start {T : Tree} {pg : Pg} (eb : pg.boxes = T.bos) (tr : TreeR T) (nd : pg.bn.Nodup) : inR pg (pg.book (pg.boxes.map Bo.start)) = true := by
  unfold inR
  rw [List.all_eq_true]
  intro b hb
  have e : lk (pg.book (pg.boxes.map Bo.start)) b.name = b.start := by
    rw [book_start]
    refine lk_mem ?_ (List.mem_map.mpr ⟨b, hb, rfl⟩)
    rw [List.map_map]
    exact nd
  rw [e]
  have hr : b.low ≤ b.start ∧ b.start ≤ b.high := by
    rw [eb] at hb
    unfold Tree.bos at hb
    rcases List.mem_append.mp hb with hb | hb
    · rcases List.mem_append.mp hb with hb | hb
      · obtain ⟨x, hx, rfl⟩ := List.mem_map.mp hb
        exact tr.1 x hx
      · obtain ⟨x, hx, rfl⟩ := List.mem_map.mp hb
        exact ⟨Int.le_refl 0, Int.natCast_nonneg _⟩
    · obtain ⟨l, hl, hx⟩ := List.mem_flatten.mp hb
      obtain ⟨h, hh, rfl⟩ := List.mem_map.mp hl
      obtain ⟨x, hx2, rfl⟩ := List.mem_map.mp hx
      exact tr.2.1 h hh x hx2
  rw [decide_eq_true hr.1, decide_eq_true hr.2]
  rfl
/-- how the law begins with a hand -/
structure InitH (S : List Stp) (f0 : Str → Str → Int) (E : En) (k : Nat) (hd : Hnd) (p : Int) : Prop where
  len : hd.rows.length ≤ 1000
  lay : ∀ x ∈ stm hd.rows, Lay 20 x.d
  hdg : HdG E 3 (numb p (lstR hd.rows))
  elen : (numb p (lstR hd.rows)).length ≤ 100
  le : p ≤ (opn 3 (p + (lstR hd.rows).length) (numb p (lstR hd.rows))).2
  sim : HSim S E hd.name ((k : Int) + 1) (opn 3 (p + (lstR hd.rows).length) (numb p (lstR hd.rows))).2 200 ⟨(opn 3 (p + (lstR hd.rows).length) (numb p (lstR hd.rows))).1, (opn 3 (p + (lstR hd.rows).length) (numb p (lstR hd.rows))).1, decide (stm hd.rows = [])⟩ 0
  lab : f0 hd.name "lab" = if decide (stm hd.rows = []) = true then 1 else 0
theorem ch_rk {S : List Stp} {E : En} {h : Str} {num : Int} : ∀ {es : List Ent} {p q : Int}, Ch S E h num es p q → ∀ e ∈ es, RkG E 3 e.2 ∧ e.2.mark = false
  | [], _, _, _, _, hm => nomatch hm
  | e :: r, p, q, ⟨q1, l, _, t⟩, x, hx => by
    rcases List.mem_cons.mp hx with z | z
    · rw [z]
      exact ld_rk l
    · exact ch_rk t x z
theorem ch_hdg {S : List Stp} {E : En} {h : Str} {num : Int} {es : List Ent} {p q : Int} (c : Ch S E h num es p q) : HdG E 3 es := by
  cases es with
  | nil => trivial
  | cons e r => exact (ch_rk c e List.mem_cons_self).1
theorem stat_of {T : Tree} {pg : Pg} (laid : LaidAll T pg) (ok : T.Ok) (sl : pg.steps.length ≤ 16000000) : pg.Ok ∧ pg.hn = T.hn ∧ ∃ (S : List Stp) (f0 : Str → Str → Int) (Ef : Str → En), (∀ st : Str4, st.map (fun q => (q.1, q.2.2)) = pg.boxes.map (fun b => (b.name, b.low, b.high)) → Stat pg S f0 Ef st) ∧
    ∀ (k : Nat) (hd : Hnd), T.hands[k]? = some hd → ∀ p, InitH S f0 (Ef hd.name) k hd p := by
  obtain ⟨eb, el, S, lb, lh, es⟩ := laid
  have nd := ok.nd
  unfold Tree.names at nd
  have ndn : (T.hands.map Hnd.name).Nodup := (List.Sublist.nodup ((nm_sub2 T.hands).trans (List.sublist_append_right _ _)) nd)
  obtain ⟨Ef, hE⟩ := pick (Q := fun h E => ∃ rs, h.rows = [.label "lab"] ++ rs ++ [.label "fin"] ∧ rs.length ≤ 10 ∧ (∀ x ∈ rs, Row.Ok E 3 x) ∧ EnT T h E) ndn (fun h hh => by
    obtain ⟨rs, E, z⟩ := ok.rows h hh
    exact ⟨E, rs, z⟩)
  have rowE : ∀ h ∈ T.hands, ∀ x ∈ h.rows, x.mark = false → Row.Ok (Ef h.name) 3 x := fun h hh x hx hm => by
    obtain ⟨rs, er, _, ok3, _⟩ := hE h hh
    rw [er] at hx
    rcases List.mem_append.mp hx with hx | hx
    · rcases List.mem_append.mp hx with hx | hx
      · rw [List.mem_singleton.mp hx] at hm
        cases hm
      · exact ok3 x hx
    · rw [List.mem_singleton.mp hx] at hm
      cases hm
  obtain ⟨m1, m2, m3⟩ := layH_ms (fun h hh => by
    obtain ⟨rs, er, l, o, _⟩ := hE h hh
    exact ⟨rs, _, er, l, o⟩) lh
  have hn : pg.hn = T.hn := m2
  have hat := layH_at (fun h hh => ⟨Ef h.name, rowE h hh⟩) ndn lh
  have hbn : pg.bn = bn T.boxes ++ T.locks ++ (T.hands.map fun h => bn h.owns).flatten := by
    unfold Pg.bn
    rw [eb]
    exact bos_names T
  have enB : ∀ h ∈ T.hands, (∀ x ∈ (Ef h.name).mine ++ (Ef h.name).locks, x ∈ pg.bn) ∧ (Ef h.name).hands = T.hn := fun h hh => by
    obtain ⟨rs, _, _, _, en⟩ := hE h hh
    refine ⟨fun x hx => ?_, en.hands⟩
    rw [hbn]
    rcases List.mem_append.mp hx with hx | hx
    · rcases en.mine x hx with z | z
      · exact List.mem_append_left _ (List.mem_append_left _ z)
      · exact List.mem_append_right _ (List.mem_flatten.mpr ⟨_, List.mem_map.mpr ⟨h, hh, rfl⟩, z⟩)
    · exact List.mem_append_left _ (List.mem_append_right _ (en.locks x hx))
  have inn : ∀ h ∈ T.hands, ∀ s ∈ S, s.hand = h.name → StIn (Ef h.name) h.name (fun _ => True) s := fun h hh s hs e => by
    obtain ⟨i, hi⟩ := List.getElem?_of_mem hh
    obtain ⟨st1, lb1, mm, a1, a2, a3, a4⟩ := hat i h hi
    exact ((layR_in (E := Ef h.name) (fun x hx hm => layS_in 3 x (rowE h hh x hx hm)) a1).2 s (a4 s hs e)).mono fun _ _ => trivial
  have bnd : pg.bn.Nodup := by
    rw [hbn]
    exact List.Sublist.nodup (List.Sublist.append (List.Sublist.refl _) (nm_sub1 T.hands)) nd
  have gok : ∀ s ∈ S, ∃ h ∈ T.hands, s.hand = h.name ∧ StIn (Ef h.name) h.name (fun _ => True) s := fun s hs => by
    have z := (layH_in (fun h hh => ⟨Ef h.name, rowE h hh⟩) lh).1 s hs
    obtain ⟨h, hh, e⟩ := List.mem_map.mp z
    exact ⟨h, hh, e.symm, inn h hh s hs e.symm⟩
  have pok : pg.Ok := by
    refine ⟨?_, ?_, sl, bnd, by rw [hn]; exact ndn, fun s hs b ps hb hp => ?_, fun s hs => ?_⟩
    · rw [eb]
      unfold Tree.bos
      rw [List.length_append, List.length_append, List.length_map, List.length_map]
      have := own_len ok.ol
      have := ok.bl
      have := ok.ll
      have := ok.hl
      omega
    · rw [m1]
      have := ok.hl
      omega
    · rw [es] at hs
      obtain ⟨s0, hs0, rfl⟩ := List.mem_map.mp hs
      obtain ⟨h, hh, e, i⟩ := gok s0 hs0
      obtain ⟨b1, b2⟩ := enB h hh
      exact hok_of (fun x hx => by rw [hb]; exact b1 x hx) (fun x hx => by rw [hp, hn, ← b2]; exact hx) 3 s0.guard i.guard
    · rw [es] at hs
      obtain ⟨s0, hs0, rfl⟩ := List.mem_map.mp hs
      obtain ⟨h, hh, e, i⟩ := gok s0 hs0
      obtain ⟨b1, b2⟩ := enB h hh
      refine ⟨?_, ?_, fun q hq => ⟨b1 _ (i.sets.2 q hq).1, fun b hb p hp => ?_⟩⟩
      · show s0.hand ∈ pg.hn
        rw [e, hn]
        exact List.mem_map.mpr ⟨h, hh, rfl⟩
      · have := i.sets.1
        show s0.sets.length ≤ 100
        omega
      · have z := (i.sets.2 q hq).2.2 p hp
        exact ⟨by rw [hb]; exact b1 _ z.1, z.2.2⟩
  refine ⟨pok, hn, S, lab0 lb, Ef, fun st hst => ⟨pok, es, fun h hh => ?_, fun h hh => ?_, fun h hh => ?_, fun h hh => ?_, hst⟩, fun k hd hk p => ?_⟩
  · rw [hn] at hh
    obtain ⟨x, hx, rfl⟩ := List.mem_map.mp hh
    obtain ⟨b1, b2⟩ := enB x hx
    exact ⟨b1, fun y hy => by rw [hn, ← b2]; exact hy⟩
  · rw [hn] at hh
    obtain ⟨x, hx, rfl⟩ := List.mem_map.mp hh
    exact inn x hx
  · rw [hn] at hh
    obtain ⟨x, hx, rfl⟩ := List.mem_map.mp hh
    obtain ⟨i, hi⟩ := List.getElem?_of_mem hx
    obtain ⟨st1, lb1, mm, a1, a2, a3, a4⟩ := hat i x hi
    obtain ⟨rs, er, _, ok3, _⟩ := hE x hx
    rw [er] at a1
    rw [a3]
    exact (layR_labs (lbs_ok ok3) a1).2
  · rw [hn] at hh
    obtain ⟨x, hx, rfl⟩ := List.mem_map.mp hh
    obtain ⟨i, hi⟩ := List.getElem?_of_mem hx
    obtain ⟨st1, lb1, mm, a1, a2, a3, a4⟩ := hat i x hi
    rw [a2]
    refine outs_no fun s hs _ e => ?_
    have z := ((layR_in (E := Ef x.name) (fun y hy hm => layS_in 3 y (rowE x hx y hy hm)) a1).2 s hs).frm
    unfold Xr at z
    omega
  · have hx := List.mem_of_getElem? hk
    obtain ⟨st1, lb1, mm, a1, a2, a3, a4⟩ := hat k hd hk
    obtain ⟨rs, er, rl, ok3, _⟩ := hE hd hx
    have hl : hd.rows.length ≤ 12 := by
      rw [er, List.length_append, List.length_append]
      show 1 + rs.length + 1 ≤ 12
      omega
    have hlR : (lstR hd.rows).length ≤ 12 := by
      unfold lstR
      by_cases e : stm hd.rows = []
      · rw [if_pos e]
        show 1 ≤ 12
        omega
      · rw [if_neg e]
        have : (stm hd.rows).length ≤ hd.rows.length := List.length_filter_le _ _
        omega
    have e0 : ((0 + k : Nat) : Int) = (k : Int) := by rw [Nat.zero_add]
    rw [e0] at a1
    have ch := layR_ch (S := S) (by decide : 3 ≤ 3) (rowE hd hx) a1 (by decide) (by decide) (fun x _ => a2 x) p
    have hg := ch_hdg ch
    have pk : PenOk (p + (lstR hd.rows).length) (numb p (lstR hd.rows)) := ⟨numb_nd _ _, fun e he => (numb_pen he).2⟩
    obtain ⟨o1, o2, o3, o4, o5⟩ := opn_first (numb_ne _) pk ch hg
    have ol := opn_len 3 (p + (lstR hd.rows).length) _ hg
    rw [numb_len] at ol
    have hlab : lab0 lb hd.name "lab" = if decide (stm hd.rows = []) = true then 1 else 0 := by
      have er' := er
      rw [er] at a1
      rw [a3, (layR_labs (lbs_ok ok3) a1).1, er, stm_lbf]
      by_cases e : stm rs = []
      · rw [if_pos e, if_pos (decide_eq_true e)]
      · rw [if_neg e, if_neg (by rw [decide_eq_false e]; exact Bool.false_ne_true)]
    refine ⟨by omega, fun x hx2 => ?_, hg, by rw [numb_len]; omega, by omega, ?_, hlab⟩
    · obtain ⟨z1, z2⟩ := mem_stm hx2
      exact (Row.lay 3 x (rowE hd hx x z1 z2)).mono (by decide)
    · have hly : ∀ e ∈ (opn 3 (p + (lstR hd.rows).length) (numb p (lstR hd.rows))).1, EntL e := fun e he => rkg_lay (by decide : 3 ≤ 4) (ch_rk o2 e he).1
      refine ⟨?_, o5, by show (opn 3 _ _).1.length ≤ 200; omega, hly, hly⟩
      show ∃ e r, (opn 3 (p + (lstR hd.rows).length) (numb p (lstR hd.rows))).1 = e :: r ∧ _
      cases e9 : (opn 3 (p + (lstR hd.rows).length) (numb p (lstR hd.rows))).1 with
      | nil => exact absurd e9 o1
      | cons e r =>
        rw [e9] at o2
        have o3' := o3
        rw [e9] at o3'
        exact ⟨e, r, rfl, o3'.2 e List.mem_cons_self, o5 e r e9, first_todo o3'.1 o2⟩
end Ca
namespace Ca
open PySem L2
abbrev s_law : Stmt := top 73
abbrev N_law : List Str := ["_law_script", "_law_head", "_law_free", "_law_tree_here", "_law_program", "_law_hands", "_law_stretches", "_law_book", "_law_name_here", "_law_owner", "_law_low", "_law_high", "_law_start", "_law_boxes", "_law_todo", "_law_pen", "_law_owns", "_law_rows_here", "_law_first", "_law_stand", "_law_cell", "_law_ways_here", "_law_hand", "_law_move", "_law_box_here"]
theorem sc_law : FnScope N_law ["_law_script"] (defScope s_law) := ⟨rfl, rfl, rfl, by decide +kernel, rfl, by decide +kernel, by decide +kernel⟩
-- cells: []  slots: 0=_law_script 1=_law_head 2=_law_free 3=_law_tree_here 4=_law_program 5=_law_hands 6=_law_stretches 7=_law_book 8=_law_name_here 9=_law_owner 10=_law_low 11=_law_high 12=_law_start 13=_law_boxes 14=_law_todo 15=_law_pen 16=_law_owns 17=_law_rows_here 18=_law_first 19=_law_stand 20=_law_cell 21=_law_ways_here 22=_law_hand 23=_law_move 24=_law_box_here
theorem putK_new {α : Type} (g : α → V) {l : List (Str × α)} {x : Str} {v : α} (h : x ∉ l.map (·.1)) : putK (l.map fun p => ((Sum.inr p.1 : Key), g p.2)) (.inr x) (g v) = (l ++ [(x, v)]).map fun p => ((Sum.inr p.1 : Key), g p.2) := by
  unfold putK
  rw [if_neg, List.map_append]
  · rfl
  · intro z
    obtain ⟨p, hp, e⟩ := List.any_eq_true.mp z
    obtain ⟨q, hq, rfl⟩ := List.mem_map.mp hp
    exact h (List.mem_map.mpr ⟨q, hq, Sum.inr.inj (of_decide_eq_true e)⟩)
theorem putK_old {α : Type} (g : α → V) {l : List (Str × α)} {x : Str} {v : α} (h : x ∈ l.map (·.1)) : putK (l.map fun p => ((Sum.inr p.1 : Key), g p.2)) (.inr x) (g v) = (putL l x v).map fun p => ((Sum.inr p.1 : Key), g p.2) := by
  unfold putK
  rw [if_pos]
  · unfold putL
    rw [List.map_map, List.map_map]
    refine List.map_congr_left fun p _ => ?_
    show (if (Sum.inr p.1 : Key) = Sum.inr x then ((Sum.inr p.1 : Key), g v) else (Sum.inr p.1, g p.2)) = (Sum.inr (if p.1 = x then (p.1, v) else p).1, g (if p.1 = x then (p.1, v) else p).2)
    by_cases hp : p.1 = x
    · rw [if_pos hp, if_pos (by rw [hp])]
    · rw [if_neg hp, if_neg (fun z => hp (Sum.inr.inj z))]
  · obtain ⟨q, hq, e⟩ := List.mem_map.mp h
    exact List.any_eq_true.mpr ⟨_, List.mem_map.mpr ⟨q, hq, rfl⟩, decide_eq_true (congrArg Sum.inr e)⟩
theorem lkp_app {α : Type} {x y : Str} {v : α} : ∀ {l : List (Str × α)}, x ∉ l.map (·.1) → lkp (l ++ [(x, v)]) y = if y = x then some v else lkp l y
  | [], _ => by
    rw [List.nil_append, lkp_cons]
    by_cases e : y = x
    · rw [if_pos e, if_pos e.symm]
    · rw [if_neg e, if_neg (fun z => e z.symm)]
  | (k, i) :: l, h => by
    rw [List.map_cons, List.mem_cons, not_or] at h
    rw [List.cons_append, lkp_cons, lkp_cons, lkp_app h.2]
    by_cases e : k = y
    · rw [if_pos e, if_pos e, if_neg (fun z => h.1 (z.symm.trans e.symm))]
    · rw [if_neg e, if_neg e]
section
variable {K : PySem.W.Frag} {F H : Hp} {T : Addr} {td : Tds} {x : Str}
theorem TdAt.put {t0 : Tdo} (a : TdAt K F H T td) (ht : lkp td x = some t0) : ∃ kvs, H T = some (.dK kvs) ∧ kvs.length = td.length ∧ ∀ F2 H2 v t, Same F F2 → Da K F2 v (Tdo.d t) → t.L → TdAt K F2 (upd H2 T (.dK (putK kvs (.inr x) v))) T (putL td x t) := by
  obtain ⟨⟨as, h1, h2, h3⟩, h4⟩ := a
  have hx : x ∈ as.map (·.1) := by
    rw [h2]
    exact List.mem_map.mpr ⟨_, lkp_mem ht, rfl⟩
  refine ⟨_, h1, ?_, fun F2 H2 v t e dv tl => ⟨⟨putL as x v, ?_, ?_, fun y a t' ha ht' => ?_⟩, fun p hp => ?_⟩⟩
  · rw [List.length_map]
    have := congrArg List.length h2
    rw [List.length_map, List.length_map] at this
    exact this
  · rw [upd_same]
    exact congrArg (fun z => some (HO.dK z)) (putK_old (fun v : V => v) hx)
  · rw [putL_keys, putL_keys, h2]
  · rw [lkp_putL] at ha ht'
    by_cases e2 : y = x
    · rw [if_pos e2] at ha ht'
      obtain ⟨_, _, rfl⟩ := Option.map_eq_some_iff.mp ha
      obtain ⟨_, _, rfl⟩ := Option.map_eq_some_iff.mp ht'
      exact dv
    · rw [if_neg e2] at ha ht'
      exact (h3 y a t' ha ht').mono e
  · unfold putL at hp
    obtain ⟨q, hq, rfl⟩ := List.mem_map.mp hp
    by_cases e2 : q.1 = x
    · rw [if_pos e2]
      exact tl
    · rw [if_neg e2]
      exact h4 q hq
theorem TdAt.add (a : TdAt K F H T td) (hx : x ∉ td.map (·.1)) : ∃ kvs, H T = some (.dK kvs) ∧ kvs.length = td.length ∧ ∀ F2 H2 v t, Same F F2 → Da K F2 v (Tdo.d t) → t.L → TdAt K F2 (upd H2 T (.dK (putK kvs (.inr x) v))) T (td ++ [(x, t)]) := by
  obtain ⟨⟨as, h1, h2, h3⟩, h4⟩ := a
  have hx' : x ∉ as.map (·.1) := by
    rw [h2]
    exact hx
  refine ⟨_, h1, ?_, fun F2 H2 v t e dv tl => ⟨⟨as ++ [(x, v)], ?_, ?_, fun y a t' ha ht' => ?_⟩, fun p hp => ?_⟩⟩
  · rw [List.length_map]
    have := congrArg List.length h2
    rw [List.length_map, List.length_map] at this
    exact this
  · rw [upd_same]
    exact congrArg (fun z => some (HO.dK z)) (putK_new (fun v : V => v) hx')
  · rw [List.map_append, List.map_append, h2]
    rfl
  · rw [lkp_app hx'] at ha
    rw [lkp_app hx] at ht'
    by_cases e2 : y = x
    · rw [if_pos e2] at ha ht'
      cases ha
      cases ht'
      exact dv
    · rw [if_neg e2] at ha ht'
      exact (h3 y a t' ha ht').mono e
  · rcases List.mem_append.mp hp with hp | hp
    · exact h4 p hp
    · rw [List.mem_singleton.mp hp]
      exact tl
theorem TdAt.nil (h : H T = some (.dK [])) : TdAt K F H T [] := ⟨⟨[], h, rfl, fun _ _ _ z => nomatch z⟩, fun _ z => nomatch z⟩
end
theorem Sim.mono {pg : Pg} {S : List Stp} {f0 : Str → Str → Int} {Ef : Str → En} {st : Str4} {ps vs : List Int} {b : Bk} {td : Tds} {P P' : Int} {L L' : Nat} (m : Sim pg S f0 Ef st ps vs b td P L) (hP : P ≤ P') (hL : L ≤ L') : Sim pg S f0 Ef st ps vs b td P' L' :=
  ⟨m.bk, m.vl, m.pl, m.inr, fun k h hk => by
    obtain ⟨t, z1, z2, z3⟩ := m.hs k h hk
    exact ⟨t, z1, z2.mono hP hL, z3⟩⟩
structure LawF (K : PySem.W.Frag) (F : Hp) (program : V) (D HL BL : Addr) (pg : Pg) (st : Str4) : Prop where
  pr : Da K F program pg.d
  D_ : F D = some (.dK (strK st))
  tu : ∀ q ∈ st, F q.2.1 = some (.tup [.int q.2.2.1, .int q.2.2.2])
  hl : F HL = some (.lst (pg.hn.map V.str))
  bl : F BL = some (.lst (pg.bn.map V.str))
theorem LawF.mono {K : PySem.W.Frag} {F F' : Hp} {program : V} {D HL BL : Addr} {pg : Pg} {st : Str4} (a : LawF K F program D HL BL pg st) (e : Same F F') : LawF K F' program D HL BL pg st :=
  ⟨a.pr.mono e, e _ _ a.D_, fun q hq => e _ _ (a.tu q hq), e _ _ a.hl, e _ _ a.bl⟩
structure LawI (K : PySem.W.Frag) (NN TT : Addr) (pg : Pg) (S : List Stp) (f0 : Str → Str → Int) (Ef : Str → En) (st : Str4) (F H : Hp) (p : Int) (ps vs : List Int) (b : Bk) (td : Tds) (B : Addr) (stand : V) (L : Nat) : Prop where
  fh : Same F H
  nN : F NN = none
  hN : H NN = some (.lst [.int p])
  nT : F TT = none
  td_ : TdAt K F H TT td
  tl : td.length ≤ 3
  bk_ : F B = some (.dK (bk b))
  sd_ : Da K F stand (standD ps vs)
  sim : Sim pg S f0 Ef st ps vs b td p L
theorem das_of_strs {K : PySem.W.Frag} {F : Hp} : ∀ xs : List Str, Das K F (xs.map V.str) (xs.map PyData.str)
  | [] => .nil
  | x :: xs => .cons (.str x) (das_of_strs xs)
theorem st_keys {pg : Pg} {st : Str4} (e : st.map (fun q => (q.1, q.2.2)) = pg.boxes.map (fun b => (b.name, b.low, b.high))) : st.map (·.1) = pg.bn := by
  have z := congrArg (List.map Prod.fst) e
  rw [List.map_map, List.map_map] at z
  exact z
theorem goes_call {K : PySem.W.Frag} {NN TT D HL BL B : Addr} {program stand : V} {pg : Pg} {S : List Stp} {f0 : Str → Str → Int} {Ef : Str → En} {st : Str4} {F H : Hp} {p : Int} {ps vs : List Int} {b : Bk} {td : Tds} {L : Nat} (TN : TT ≠ NN) (c : Stat pg S f0 Ef st) (hh : pg.hands.length ≤ 3) (W : LawF K F program D HL BL pg st)
    (I : LawI K NN TT pg S f0 Ef st F H p ps vs b td B stand L) (hL : L ≤ 90000) {Q : VK} {E : XK} (post : ∀ F' H' l xs P', Gp NN F H F' H' P' → p ≤ P' → F' l = some (.lst xs) → xs.length ≤ 1000 → (∀ v ∈ xs, ItAt K F' (Jst pg S Ef st ps td p L) P' v) → Q (.ref l) H') :
    spGoes K [program, stand, .ref TT, .ref B, .ref D, .ref HL, .ref BL, .ref NN] H Q E := by
  have kb := I.sim.keys
  refine ⟨_, _, _, _, _, _, _, _, rfl, F, NN, B, TT, D, p, pg, ps, vs, b, td, st, pg.hn, Jst pg S Ef st ps td p L, rfl, Gp.refl I.fh I.hN I.nN, W.pr, c.ok, I.sd_, I.sim.pl, I.sim.vl, rfl, I.bk_, ?_, rfl, I.td_, TN, rfl, W.D_, ?_, fun q hq => ⟨W.tu q hq, ?_⟩, .lst W.hl (das_of_strs _), ?_, .lst W.bl (das_of_strs _), fun k h hk => sim_goes c I.sim hL k h hk, fun h b es ps vs P1 P2 e j => Jst.mono e j, post⟩
  · have z := congrArg List.length kb
    rw [List.length_map, bn_len] at z
    have := c.ok.bl
    omega
  · rw [st_keys c.st]
    exact c.ok.bnd
  · rw [kb, ← st_keys c.st]
    exact List.mem_map.mpr ⟨q, hq, rfl⟩
  · rw [hn_len]
    exact hh
def Any : Addr → Prop := fun _ => True
section
variable {P : Program} {w : World} {K : PySem.W.Frag} {mg : Str → Option Value} {base : Heap}
theorem sqL_mono {F F' : Hp} {a : Addr} {xs : List V} (e : Same F F') (h : SqL K F a xs) : SqL K F' a xs := by
  rcases h with h | h
  · rcases h with h | ⟨o, h⟩
    · exact .inl (.inl (e _ _ h))
    · exact .inl (.inr ⟨o, e _ _ h⟩)
  · exact .inr h
theorem sqL_at {F F' : Hp} {a : Addr} {xs : List V} (e : F' a = F a) (h : SqL K F a xs) : SqL K F' a xs := by
  rcases h with h | h
  · rcases h with h | ⟨o, h⟩
    · exact .inl (.inl (e.trans h))
    · exact .inl (.inr ⟨o, e.trans h⟩)
  · exact .inr h
def spLaw (K : PySem.W.Frag) : Sp := Sp1 fun script H Q => ∃ (a : Addr) (zs : List Int), script = .ref a ∧ SqL K H a (zs.map V.int) ∧ zs.length ≤ 63 ∧ ∀ H', Q (.bl true) H'
theorem ok_law {f : Addr} {fd : FuncData} (F : Fun K "law" "law" s_law f fd) (G : Glb K mg) (c_law_cell_at : Cal P w K mg base "_law_cell_at" 1 ["_law_script", "_law_k"] (spCell K)) (c_law_state : Cal P w K mg base "_law_state" 1 ["_law_cell", "_law_free"] spState)
    (c_law_tree : Cal P w K mg base "_law_tree" 18 ["_law_head", "_law_state_here", "_law_most", "_law_deep"] (spTree K)) (c_lay_out : Cal P w K mg base "lay_out" 16 ["tree"] (spLayOut K)) (c_law_list : Cal P w K mg base "_law_list" 2 ["_law_rows_here", "_law_pen"] (spList K))
    (c_law_opened : Cal P w K mg base "_law_opened" 3 ["_law_rest", "_law_pen"] (spOpen K)) (c_law_statements : Cal P w K mg base "_law_statements" 1 ["_law_rows_here"] (spStm K)) (c_first_stand : Cal P w K mg base "first_stand" 1 ["program"] (spFirst K))
    (c_law_goes_on : Cal P w K mg base "_law_goes_on" 8 ["_law_program", "_law_stand", "_law_todo", "_law_book", "_law_stretches", "_law_hands", "_law_boxes", "_law_pen"] (spGoes K)) : FnOk P w K mg base CX0 19 f fd ["_law_script"] (spLaw K) := by
  refine F.ok sc_law Sp1.len fun cdv A outer s H vs Q E hr h => ?_
  have nd := sc_law.nd
  have hu := hu_of hr
  have m_len := G.len
  refine ⟨_, (pss_cons (ps_set (i := 1) nd rfl (Or.inl rfl) (pe_cal c_law_cell_at hr rfl (pa_cons (pv 0) (pa_cons pe_int pa_nil))))
    (pss_cons (ps_set (i := 2) nd rfl (Or.inl rfl) (pe_cmpR op_eq (pe_op op_modN (pe_cal c_law_cell_at hr rfl (pa_cons (pv 0) (pa_cons pe_int pa_nil))) pe_int) pe_int (nomark _)))
    (pss_cons (ps_set (i := 3) nd rfl (Or.inl rfl) (pe_cal c_law_tree hr rfl (pa_cons (pv 1) (pa_cons (pe_cal c_law_state hr rfl (pa_cons (pe_cal c_law_cell_at hr rfl (pa_cons (pv 0) (pa_cons pe_int pa_nil))) (pa_cons (pv 2) pa_nil))) (pa_cons pe_int (pa_cons pe_int pa_nil))))))
    (pss_cons (ps_set (i := 4) nd rfl (Or.inl rfl) (pe_ix ix_tup (pe_cal c_lay_out hr rfl (pa_cons (pv 3) pa_nil)) pe_int (fun _ _ => rfl)))
    (pss_cons (ps_setLc (i := 5) rfl nd rfl rfl (sw_true rfl rfl rfl (by decide +kernel)) (own := [("_law_hand", 22)]) (g := (gName 22)) (tt := tYes) (pi_list (pe_ix ix_tup (pv 3) pe_int (fun _ _ => rfl))) (blkOk_by (own := [("_law_hand", 22)]) (N := N_law) (sc := defScope s_law) (by decide +kernel)) (fun _ _ _ _ _ => (pg_name (i := 22) nd rfl (Or.inl rfl))) (fun _ _ _ _ _ => pts_nil) (fun _ _ _ _ _ => (pe_ix (ix_tupK (K := K) rfl) (pv 22) pe_int (fun _ _ => rfl))))
    (pss_cons (ps_set (i := 6) nd rfl (Or.inl rfl) pe_dnewK)
    (pss_cons (ps_set (i := 7) nd rfl (Or.inl rfl) pe_dnewK)
    (Evl.pss_cut (ps_for PassesOwn.never rfl (pi_list (pe_ix ix_tup (pv 4) pe_int (fun _ _ => rfl))) (pg_tup rfl (pgs_cons (pg_name (i := 8) nd rfl (Or.inl rfl)) (pgs_cons (pg_name (i := 9) nd rfl (Or.inl rfl)) (pgs_cons (pg_name (i := 10) nd rfl (Or.inl rfl)) (pgs_cons (pg_name (i := 11) nd rfl (Or.inl rfl)) (pgs_cons (pg_name (i := 12) nd rfl (Or.inl rfl)) pgs_nil))))))
      (pss_cons (ps_dput hu (pv 6) (pv 8) (pe_tup (pa_cons (pv 10) (pa_cons (pv 11) pa_nil))) rfl)
      (pss_one (ps_dput hu (pv 7) (pv 8) (pv 12) rfl))))
    (pss_cons (ps_setLc (i := 13) rfl nd rfl rfl (sw_true rfl rfl rfl (by decide +kernel)) (own := [("_law_box_here", 24)]) (g := (gName 24)) (tt := tYes) (pi_list (pe_ix ix_tup (pv 4) pe_int (fun _ _ => rfl))) (blkOk_by (own := [("_law_box_here", 24)]) (N := N_law) (sc := defScope s_law) (by decide +kernel)) (fun _ _ _ _ _ => (pg_name (i := 24) nd rfl (Or.inl rfl))) (fun _ _ _ _ _ => pts_nil) (fun _ _ _ _ _ => (pe_ix (ix_tupK (K := K) rfl) (pv 24) pe_int (fun _ _ => rfl))))
    (pss_cons (ps_set (i := 14) nd rfl (Or.inl rfl) pe_dnewK)
    (pss_cons (ps_set (i := 15) nd rfl (Or.inl rfl) (pe_lst (pa_cons pe_int pa_nil)))
    (Evl.pss_cut (ps_for PassesOwn.never rfl (pi_list (pe_ix ix_tup (pv 3) pe_int (fun _ _ => rfl))) (pg_tup rfl (pgs_cons (pg_name (i := 8) nd rfl (Or.inl rfl)) (pgs_cons (pg_name (i := 16) nd rfl (Or.inl rfl)) (pgs_cons (pg_name (i := 17) nd rfl (Or.inl rfl)) pgs_nil))))
      (pss_cons (ps_set (i := 18) nd rfl (Or.inl rfl) (pe_cal c_law_opened hr rfl (pa_cons (pe_cal c_law_list hr rfl (pa_cons (pv 17) (pa_cons (pv 15) pa_nil))) (pa_cons (pv 15) pa_nil))))
      (pss_one (ps_dput hu (pv 14) (pv 8) (pe_tup (pa_cons (pv 18) (pa_cons (pv 18) (pa_cons (pe_cmpR (op_eqD hr.units) (pe_cal c_law_statements hr rfl (pa_cons (pv 17) pa_nil)) (pe_lst pa_nil) (nomark _)) pa_nil)))) rfl))))
    (pss_cons (ps_set (i := 19) nd rfl (Or.inl rfl) (pe_cal c_first_stand hr rfl (pa_cons (pv 4) pa_nil)))
    (Evl.pss_cut (ps_for PassesOwn.never rfl (pi_list (pe_op op_cat (pe_lst (pa_cons pe_int pa_nil)) (pe_slice sl_list (pv 0) (po_some pe_int) po_none))) (pg_name (i := 20) nd rfl (Or.inl rfl))
      (pss_cons (ps_set (i := 21) nd rfl (Or.inl rfl) (pe_cal c_law_goes_on hr rfl (pa_cons (pv 4) (pa_cons (pv 19) (pa_cons (pv 14) (pa_cons (pv 7) (pa_cons (pv 6) (pa_cons (pv 5) (pa_cons (pv 13) (pa_cons (pv 15) pa_nil))))))))))
      (pss_cons (ps_if (pt_cmp (pc_isN (pv 21))) (pss_one (ps_ret pe_bl)) pss_nil)
      (pss_one (ps_if (pt_cmpR op_gt (pe_callB call_len_seq (by rfl) m_len (by decide +kernel) (pa_cons (pv 21) pa_nil)) pe_int (nomark _)) (pss_cons (ps_asg (pe_ix ix_list (pv 21) (pe_op op_modN (pv 20) (pe_callB call_len_seq (by rfl) m_len (by decide +kernel) (pa_cons (pv 21) pa_nil))) (fun _ _ => rfl)) (pg_tup rfl (pgs_cons (pg_name (i := 22) nd rfl (Or.inl rfl)) (pgs_cons (pg_name (i := 23) nd rfl (Or.inl rfl)) (pgs_cons (pg_name (i := 19) nd rfl (Or.inl rfl)) pgs_nil)))))
        (pss_cons (ps_set (i := 7) nd rfl (Or.inl rfl) (pe_ix ix_tup (pv 23) pe_int (fun _ _ => rfl)))
        (pss_one (ps_dput hu (pv 14) (pv 22) (pe_tup (pa_cons (pe_ix ix_tup (pe_dget hu (pv 14) (pv 22) (fun _ _ => rfl)) pe_int (fun _ _ => rfl)) (pa_cons (pe_cal c_law_opened hr rfl (pa_cons (pe_ix ix_tup (pv 23) pe_int (fun _ _ => rfl)) (pa_cons (pv 15) pa_nil))) (pa_cons (pe_ix ix_tup (pe_dget hu (pv 14) (pv 22) (fun _ _ => rfl)) pe_int (fun _ _ => rfl)) pa_nil)))) rfl)))) pss_nil)))))
    (pss_one (ps_ret (pe_cmp (pc_notN (pe_cal c_law_goes_on hr rfl (pa_cons (pv 4) (pa_cons (pv 19) (pa_cons (pv 14) (pa_cons (pv 7) (pa_cons (pv 6) (pa_cons (pv 5) (pa_cons (pv 13) (pa_cons (pv 15) pa_nil))))))))))))))))))))))))))), ?_⟩
  obtain ⟨script, rfl, a, zs, rfl, ha, hzl, q⟩ := h
  obtain ⟨F0, eF0⟩ : ∃ F0 : Hp, F0 = fun c => if c = a then H a else none := ⟨_, rfl⟩
  have hF0 : Same F0 H := fun c o e => by
    rw [eF0] at e
    by_cases z : c = a
    · simp only [if_pos z] at e
      rw [z]
      exact e
    · simp only [if_neg z] at e
      cases e
  have fa : SqL K F0 a (zs.map V.int) := sqL_at (by rw [eF0]; exact if_pos rfl) ha
  refine ⟨_, rfl, _, _, rfl, a, zs, 0, rfl, ha, rfl, ?_⟩
  refine ⟨_, rfl, _, _, rfl, a, zs, 1, rfl, ha, rfl, _, _, rfl, rfl, (by show (2 : Int) ≠ 0; decide), rfl, ?_⟩
  refine ⟨_, rfl, _, rfl, _, _, rfl, a, zs, 2, rfl, ha, rfl, _, rfl, _, _, rfl, _, _, rfl, rfl, fun S H1 nS e1 hS => ?_⟩
  refine ⟨_, _, _, _, rfl, F0, S, _, rfl, rfl, Gs.refl (hF0.trans e1) hS (hF0.free nS), rfl, rfl, fun F2 H2 v T g2 dv tok tr => ?_⟩
  refine ⟨_, rfl, _, rfl, F2, T, g2.gr.fh, dv, tok, fun F3 a3 x y H3 pg g3 k3 dx laid sl => ?_⟩
  refine ⟨a3, _, 0, _, rfl, rfl, g3.fh.tup k3, at0, ?_⟩
  obtain ⟨pok, hn, SS, f0, Ef, mkStat, initH⟩ := stat_of laid tok sl
  obtain ⟨tT, tb, tl, th, bs, ls, hs, rfl, k0, b1, b2, l1, l2, hh1, hh2⟩ := Tree.at_ dv
  have f23 : Same F2 H3 := g3.ff.trans g3.fh
  have hT3 := tok.hl
  refine ⟨_, rfl, tT, _, 2, _, rfl, rfl, f23.tup k0, rfl, th, rfl, ⟨_, SqL.of (f23 _ _ hh1)⟩, fun HL hHL => lc_list (K := K) (a := th) (xs := hs) (LcP H3 T.hands (fun x => some (.str x.name)) HL) (LcP.start hHL) (fun i H' _ z => SqL.of (z.same _ _ (f23 _ _ hh1))) ?_ ?_⟩
  · intro i v H' hi z
    obtain ⟨x, hx, hv⟩ := hh2.getM hi
    obtain ⟨t1, o1, r1, rfl, k1, _⟩ := Hnd.at_ hv
    exact ⟨rfl, _, rfl, t1, _, 0, _, rfl, rfl, z.same.tup (f23.tup k1), at0, z.put (Same.refl _) hx rfl (by omega)⟩
  intro H4 z
  rw [hh2.lenM] at z
  obtain ⟨_, e4, hHL4⟩ := z.end_
  rw [fm_map] at hHL4
  have zb : T.hands.map (fun x => V.str x.name) = T.hn.map V.str := by
    unfold Tree.hn
    rw [List.map_map]
    rfl
  rw [zb] at hHL4
  have g4 : Gr Non F3 H3 (upd F3 HL (.lst (T.hn.map V.str))) H4 := ((Gr.refl g3.fh).same e4).frz (g3.fh.free hHL) hHL4 hHL
  have s4 := Same.new (o := .lst (T.hn.map V.str)) (g3.fh.free hHL)
  refine fun D hD => fun B hB => ?_
  have DB : D ≠ B := ne_of_none upd_same hB
  have hD3 : H3 D = none := e4.free hD
  have hB3 : H3 B = none := e4.free ((Same.new hD).free hB)
  have g5 := (g4.new (o := .dK []) hD).new (o := .dK []) hB
  have hD5 : upd (upd H4 D (.dK [])) B (.dK []) D = some (.dK []) := Same.new hB _ _ upd_same
  have nD4 : upd F3 HL (.lst (T.hn.map V.str)) D = none := g4.fh.free hD
  have nB4 : upd F3 HL (.lst (T.hn.map V.str)) B = none := g4.fh.free ((Same.new hD).free hB)
  obtain ⟨F4, eF4⟩ : ∃ F4 : Hp, F4 = upd F3 HL (.lst (T.hn.map V.str)) := ⟨_, rfl⟩
  have fHL : F4 HL = some (.lst (T.hn.map V.str)) := by rw [eF4]; exact upd_same
  rw [← eF4] at g4 g5 s4 nD4 nB4
  obtain ⟨head, ehead⟩ : ∃ z, z = zs.getD 0 0 := ⟨_, rfl⟩
  have f24 : Same F2 F4 := g3.ff.trans s4
  have f04 : Same F0 F4 := g2.gr.ff.trans f24
  have dx4 := dx.mono s4
  obtain ⟨tP, pb, ph, psS, pl, pbs, phs, pss, rfl, q0, pb1, pb2, pc1, pc2, pd1, pd2⟩ := Pg.at_ dx4
  have hbl := pok.bl
  refine ⟨fun σ' H' => ∃ (F' : Hp) (st : Str4) (y1 y2 : Option V) (x1 x2 x3 x4 x5 : Option V), σ' = [some (.ref a), y1, y2, some (.ref tT), some (.ref tP), some (.ref HL), some (.ref D), some (.ref B), x1, x2, x3, x4, x5, none, none, none, none, none, none, none, none, none, none, none, none] ∧ Same F4 F' ∧ Same F' H' ∧ F' D = some (.dK (strK st)) ∧ F' B = some (.dK (bk (pg.book (pg.boxes.map Bo.start)))) ∧
    st.map (fun q => (q.1, q.2.2)) = pg.boxes.map (fun b => (b.name, b.low, b.high)) ∧ ∀ q ∈ st, F' q.2.1 = some (.tup [.int q.2.2.1, .int q.2.2.2]), ?_, ?_⟩
  · refine ⟨_, rfl, tP, _, 0, _, rfl, rfl, g5.fh.tup q0, at0, pb, rfl, ⟨_, SqL.of (g5.fh _ _ pb1)⟩, for_list (K := K) (a := pb) (xs := pbs) (fun i σ H' => ∃ (F' : Hp) (st : Str4) (y1 y2 : Option V) (x1 x2 x3 x4 x5 : Option V), σ = [some (.ref a), y1, y2, some (.ref tT), some (.ref tP), some (.ref HL), some (.ref D), some (.ref B), x1, x2, x3, x4, x5, none, none, none, none, none, none, none, none, none, none, none, none] ∧ Same F4 F' ∧ Gr Non F3 H3 F' H' ∧ F' D = none ∧ H' D = some (.dK (strK st)) ∧ F' B = none ∧ H' B = some (.dK (bk ((pg.boxes.take i).map fun b => (b.name, b.start)))) ∧
      st.map (fun q => (q.1, q.2.2)) = (pg.boxes.take i).map (fun b => (b.name, b.low, b.high)) ∧ ∀ q ∈ st, F' q.2.1 = some (.tup [.int q.2.2.1, .int q.2.2.2]))
      ⟨F4, [], _, _, none, none, none, none, none, rfl, Same.refl _, g5, nD4, hD5, nB4, upd_same, rfl, fun _ z => nomatch z⟩ (fun i σ H' _ ⟨F', _, _, _, _, _, _, _, _, _, sF, g, _⟩ => SqL.of (g.fh _ _ (sF _ _ pb1))) ?_ ?_⟩
    · rintro i v σ H' hi ⟨F', st, y1, y2, x1, x2, x3, x4, x5, rfl, sF, g, nD, hD', nB, hB', est, hst⟩
      obtain ⟨bo, hbo, hv⟩ := pb2.getM hi
      obtain ⟨t1, rfl, k1⟩ := Bo.at_ hv
      have htk : pg.boxes.take (i + 1) = pg.boxes.take i ++ [bo] := by rw [List.take_succ, hbo]; rfl
      have hil := (List.getElem?_eq_some_iff.mp hbo).1
      have hnew : bo.name ∉ (pg.boxes.take i).map Bo.name := fun z => by
        have nd := pok.bnd
        unfold Pg.bn at nd
        have e : (pg.boxes.take (i + 1)).map Bo.name = (pg.boxes.take i).map Bo.name ++ [bo.name] := by rw [htk, List.map_append]; rfl
        have nd2 : ((pg.boxes.take (i + 1)).map Bo.name).Nodup := List.Sublist.nodup ((List.take_sublist _ _).map _) nd
        rw [e, List.nodup_append] at nd2
        exact nd2.2.2 _ z _ (List.mem_singleton.mpr rfl) rfl
      have est1 : st.map (·.1) = (pg.boxes.take i).map Bo.name := by
        have z := congrArg (List.map Prod.fst) est
        rw [List.map_map, List.map_map] at z
        exact z
      have lst : st.length = (pg.boxes.take i).length := by
        have z := congrArg List.length est1
        rw [List.length_map, List.length_map] at z
        exact z
      rw [List.length_take] at lst
      refine ⟨t1, _, rfl, (sF.trans g.fh).tup k1, rfl, _, _, rfl, _, _, rfl, _, _, rfl, _, _, rfl, _, _, rfl, rfl, ?_⟩
      refine ⟨_, rfl, _, rfl, (by show 2 ≤ sizeLine; decide), fun t2 ht2 => ?_⟩
      have g6 := g.newF (o := .tup [.int bo.low, .int bo.high]) ht2
      have s6 := Same.new (o := .tup [.int bo.low, .int bo.high]) (g.fh.free ht2)
      have hD6 := Same.new (o := .tup [.int bo.low, .int bo.high]) ht2 _ _ hD'
      have hB6 := Same.new (o := .tup [.int bo.low, .int bo.high]) ht2 _ _ hB'
      have Dt : D ≠ t2 := ne_of_none hD' ht2
      have Bt : B ≠ t2 := ne_of_none hB' ht2
      have nD6 : upd F' t2 (.tup [.int bo.low, .int bo.high]) D = none := by rw [upd_ne Dt]; exact nD
      have nB6 : upd F' t2 (.tup [.int bo.low, .int bo.high]) B = none := by rw [upd_ne Bt]; exact nB
      refine ⟨_, rfl, _, rfl, D, _, rfl, DPut.k (k := .inr bo.name) hD6 (by unfold strK; rw [List.length_map, sizeLine_eq]; omega), ?_⟩
      have ep : putK (strK st) (.inr bo.name) (.ref t2) = strK (st ++ [(bo.name, t2, bo.low, bo.high)]) := by
        have z := putK_new (fun v : Addr × Int × Int => V.ref v.1) (l := st) (x := bo.name) (v := (t2, bo.low, bo.high)) (by rw [est1]; exact hnew)
        exact z
      rw [ep]
      have g7 := g6.set (o := .dK (strK (st ++ [(bo.name, t2, bo.low, bo.high)]))) nD6 hD6 (.inr hD3)
      have hB7 := upd_at (u := .dK (strK (st ++ [(bo.name, t2, bo.low, bo.high)]))) hB6 DB.symm
      refine ⟨_, rfl, _, rfl, _, rfl, B, _, rfl, DPut.k (k := .inr bo.name) hB7 (by unfold bk; rw [List.length_map, List.length_map, List.length_take, sizeLine_eq]; omega), ?_⟩
      have ep2 : putK (bk ((pg.boxes.take i).map fun b => (b.name, b.start))) (.inr bo.name) (.int bo.start) = bk ((pg.boxes.take (i + 1)).map fun b => (b.name, b.start)) := by
        have z := putK_new (fun v : Int => V.int v) (l := (pg.boxes.take i).map fun b => (b.name, b.start)) (x := bo.name) (v := bo.start) (by rw [List.map_map]; exact hnew)
        have e : (pg.boxes.take i ++ [bo]).map (fun b => (b.name, b.start)) = (pg.boxes.take i).map (fun b => (b.name, b.start)) ++ [(bo.name, bo.start)] := by
          rw [List.map_append]
          rfl
        rw [htk, e]
        exact z
      rw [ep2]
      refine ⟨_, st ++ [(bo.name, t2, bo.low, bo.high)], _, _, _, _, _, _, _, rfl, sF.trans s6, g7.set (o := .dK (bk ((pg.boxes.take (i + 1)).map fun b => (b.name, b.start)))) nB6 hB7 (.inr hB3), nD6, upd_at upd_same DB, nB6, upd_same, ?_, fun q hq => ?_⟩
      · rw [List.map_append, est, htk, List.map_append]
        rfl
      · rcases List.mem_append.mp hq with hq | hq
        · exact s6 _ _ (hst q hq)
        · rw [List.mem_singleton.mp hq]
          exact upd_same
    · rintro σ H' ⟨F', st, y1, y2, x1, x2, x3, x4, x5, rfl, sF, g, nD, hD', nB, hB', est, hst⟩
      rw [pb2.lenM, List.take_length] at hB' est
      rw [← book_start] at hB'
      have g6 := g.frz nD hD' hD3
      have sD := Same.new (o := .dK (strK st)) nD
      have nB6 : upd F' D (.dK (strK st)) B = none := by rw [upd_ne DB.symm]; exact nB
      have g7 := g6.frz nB6 hB' hB3
      have sB := Same.new (o := .dK (bk (pg.book (pg.boxes.map Bo.start)))) nB6
      exact ⟨_, st, _, _, _, _, _, _, _, rfl, (sF.trans sD).trans sB, g7.fh, sB _ _ upd_same, upd_same, est, fun q hq => sB _ _ (sD _ _ (hst q hq))⟩
  rintro σ' H5 ⟨F5, st, y1, y2, x1, x2, x3, x4, x5, rfl, s45, hF5, fD, fB, est, hst⟩
  have c := mkStat st est
  have f25 : Same F2 F5 := f24.trans s45
  refine ⟨_, rfl, tP, _, 0, _, rfl, rfl, (s45.trans hF5).tup q0, at0, pb, rfl, ⟨_, SqL.of (hF5 _ _ (s45 _ _ pb1))⟩, fun BL hBL => lc_list (K := K) (a := pb) (xs := pbs) (LcP H5 pg.boxes (fun x => some (.str x.name)) BL) (LcP.start hBL) (fun i H' _ z => SqL.of (z.same _ _ (hF5 _ _ (s45 _ _ pb1)))) ?_ ?_⟩
  · intro i v H' hi z
    obtain ⟨x, hx, hv⟩ := pb2.getM hi
    obtain ⟨t1, rfl, k1⟩ := Bo.at_ hv
    exact ⟨rfl, _, rfl, t1, _, 0, _, rfl, rfl, z.same.tup ((s45.trans hF5).tup k1), at0, z.put (Same.refl _) hx rfl (by omega)⟩
  intro H6 z
  rw [pb2.lenM] at z
  obtain ⟨_, e6, hBL6⟩ := z.end_
  rw [fm_map] at hBL6
  have zb2 : pg.boxes.map (fun x => V.str x.name) = pg.bn.map V.str := by
    unfold Pg.bn
    rw [List.map_map]
    rfl
  rw [zb2] at hBL6
  have g6 : Gr Any F5 H5 (upd F5 BL (.lst (pg.bn.map V.str))) H6 := ((Gr.refl hF5).same e6).frz (hF5.free hBL) hBL6 hBL
  have s6 := Same.new (o := .lst (pg.bn.map V.str)) (hF5.free hBL)
  obtain ⟨F6, eF6⟩ : ∃ F6 : Hp, F6 = upd F5 BL (.lst (pg.bn.map V.str)) := ⟨_, rfl⟩
  have fBL : F6 BL = some (.lst (pg.bn.map V.str)) := by rw [eF6]; exact upd_same
  rw [← eF6] at g6 s6
  have hF6 := g6.fh
  refine fun TT hTT => ⟨(by show 1 ≤ sizeLine; decide), fun NN hNN => ?_⟩
  have hF7 : Same F6 (upd (upd H6 TT (.dK [])) NN (.lst [.int 0])) := (hF6.trans (Same.new hTT)).trans (Same.new hNN)
  have nTT : F6 TT = none := hF6.free hTT
  have nNN : F6 NN = none := hF6.free ((Same.new hTT).free hNN)
  have TN : TT ≠ NN := ne_of_none upd_same hNN
  have hTT7 : upd (upd H6 TT (.dK [])) NN (.lst [.int 0]) TT = some (.dK []) := Same.new hNN _ _ upd_same
  have f26 : Same F2 F6 := f25.trans s6
  have s46 : Same F4 F6 := s45.trans s6
  refine ⟨fun σ' H' => ∃ (F' : Hp) (p : Int) (td : Tds) (y1 y2 : Option V) (x1 x2 x3 x4 x5 x16 x17 x18 : Option V), σ' = [some (.ref a), y1, y2, some (.ref tT), some (.ref tP), some (.ref HL), some (.ref D), some (.ref B), x1, x2, x3, x4, x5, some (.ref BL), some (.ref TT), some (.ref NN), x16, x17, x18, none, none, none, none, none, none] ∧ Same F6 F' ∧ Same F' H' ∧ F' NN = none ∧ H' NN = some (.lst [.int p]) ∧ F' TT = none ∧ TdAt K F' H' TT td ∧ td.length ≤ 3 ∧
    ∀ (k : Nat) (hd : Hnd), T.hands[k]? = some hd → ∃ t, lkp td hd.name = some t ∧ HSim SS (Ef hd.name) hd.name ((k : Int) + 1) p 200 t 0 ∧ f0 hd.name "lab" = if t.flag = true then 1 else 0, ?_, ?_⟩
  · refine ⟨_, rfl, tT, _, 2, _, rfl, rfl, hF7.tup (f26.tup k0), rfl, th, rfl, ⟨_, SqL.of (hF7 _ _ (f26 _ _ hh1))⟩, for_list (K := K) (a := th) (xs := hs) (fun i σ H' => ∃ (F' : Hp) (p : Int) (td : Tds) (y1 y2 : Option V) (x1 x2 x3 x4 x5 x16 x17 x18 : Option V), σ = [some (.ref a), y1, y2, some (.ref tT), some (.ref tP), some (.ref HL), some (.ref D), some (.ref B), x1, x2, x3, x4, x5, some (.ref BL), some (.ref TT), some (.ref NN), x16, x17, x18, none, none, none, none, none, none] ∧ Same F6 F' ∧ Same F' H' ∧ F' NN = none ∧ H' NN = some (.lst [.int p]) ∧ F' TT = none ∧ TdAt K F' H' TT td ∧ td.map (·.1) = (T.hands.take i).map Hnd.name ∧
      ∀ (k : Nat) (hd : Hnd), k < i → T.hands[k]? = some hd → ∃ t, lkp td hd.name = some t ∧ HSim SS (Ef hd.name) hd.name ((k : Int) + 1) p 200 t 0 ∧ f0 hd.name "lab" = if t.flag = true then 1 else 0)
      ⟨F6, 0, [], _, _, _, _, _, _, _, none, none, none, rfl, Same.refl _, hF7, nNN, upd_same, nTT, TdAt.nil hTT7, rfl, fun _ _ z => absurd z (Nat.not_lt_zero _)⟩ (fun i σ H' _ ⟨F', _, _, _, _, _, _, _, _, _, _, _, _, _, sF, g, _⟩ => SqL.of (g _ _ (sF _ _ (f26 _ _ hh1)))) ?_ ?_⟩
    · rintro i v σ H' hi ⟨F', p, td, y1, y2, x1, x2, x3, x4, x5, x16, x17, x18, rfl, sF, hF', nN, hN, nT, hTd, hkeys, hall⟩
      obtain ⟨hd, hhd, hv⟩ := hh2.getM hi
      obtain ⟨t1, o1, r1, rfl, k1, k2, k3⟩ := Hnd.at_ hv
      have I := initH i hd hhd p
      have htk : T.hands.take (i + 1) = T.hands.take i ++ [hd] := by rw [List.take_succ, hhd]; rfl
      have hil := (List.getElem?_eq_some_iff.mp hhd).1
      have ndT : (T.hands.map Hnd.name).Nodup := by
        have z := pok.hnd
        rw [hn] at z
        exact z
      have hnew : hd.name ∉ td.map (·.1) := fun z => by
        rw [hkeys] at z
        have e : (T.hands.take (i + 1)).map Hnd.name = (T.hands.take i).map Hnd.name ++ [hd.name] := by rw [htk, List.map_append]; rfl
        have nd2 : ((T.hands.take (i + 1)).map Hnd.name).Nodup := List.Sublist.nodup ((List.take_sublist _ _).map _) ndT
        rw [e, List.nodup_append] at nd2
        exact nd2.2.2 _ z _ (List.mem_singleton.mpr rfl) rfl
      have ltd : td.length ≤ 3 := by
        have z := congrArg List.length hkeys
        rw [List.length_map, List.length_map, List.length_take] at z
        omega
      refine ⟨t1, _, rfl, ((f26.trans sF).trans hF').tup k1, rfl, _, _, rfl, _, _, rfl, _, _, rfl, rfl, ?_⟩
      obtain ⟨es, ees⟩ : ∃ es, es = numb p (lstR hd.rows) := ⟨_, rfl⟩
      obtain ⟨op, eop⟩ : ∃ op, op = opn 3 (p + (lstR hd.rows).length) (numb p (lstR hd.rows)) := ⟨_, rfl⟩
      refine ⟨_, rfl, _, rfl, _, _, rfl, F', NN, p, hd.rows, rfl, Gp.refl hF' hN nN, k3.mono (f26.trans sF), I.len, I.lay, fun F8 H8 v8 g8 d8 => ?_⟩
      refine ⟨_, rfl, _, _, rfl, F8, NN, _, _, Ef hd.name, 3, rfl, g8.sub, d8, I.hdg, by decide, by have := I.elen; omega, fun F9 H9 v9 g9 d9 => ?_⟩
      have T89 : ∀ o, H' TT = some o → H9 TT = some o := fun o e => g9.gr.kp _ _ (g8.gr.kp _ _ e (fun z => TN z)) (fun z => TN z)
      have hTdc := hTd
      obtain ⟨⟨as0, hT0, _⟩, _⟩ := hTdc
      have nT9 : F9 TT = none := g9.gr.non (g8.gr.kp _ _ hT0 (fun z => TN z)) (g8.gr.non hT0 nT)
      have g89 := g8.trans g9
      have hTd9 : TdAt K F9 H9 TT td := hTd.mono g89.ff T89
      have kk3 := k3.mono ((f26.trans sF).trans g89.ff)
      refine ⟨_, rfl, _, rfl, _, rfl, _, rfl, F9, hd.rows, g9.fh, kk3, by have := I.len; omega, fun a1 H10 ys n1 e1 ha1 hys => ?_⟩
      refine ⟨Nat.zero_le _, fun l9 hl9 => ?_⟩
      have e10 : Same H9 (upd H10 l9 (.lst [])) := e1.trans (Same.new hl9)
      have h10 : Same F9 (upd H10 l9 (.lst [])) := g9.fh.trans e10
      refine ⟨.list ((stm hd.rows).map Row.d), .list [], .lst (SqL.of ((Same.new hl9) _ _ ha1)) (hys.mono h10).dp, .lst (SqL.of upd_same) .nil, (lay_lst (lay_m I.lay)).shaped (by decide : 21 ≤ 64), rfl, (by show 3 ≤ sizeLine; decide), fun t9 ht9 => ?_⟩
      have eb : PyData.eqv (.list ((stm hd.rows).map Row.d)) (.list []) = decide (stm hd.rows = []) := by
        rw [eqv_nil]
        cases stm hd.rows <;> rfl
      rw [eb]
      obtain ⟨fl, efl⟩ : ∃ fl, fl = decide (stm hd.rows = []) := ⟨_, rfl⟩
      have g11 : Gr Any F9 (upd H10 l9 (.lst [])) (upd F9 t9 (.tup [v9, v9, .bl fl])) (upd (upd H10 l9 (.lst [])) t9 (.tup [v9, v9, .bl fl])) := (Gr.refl h10).newF ht9
      have s11 := Same.new (o := .tup [v9, v9, .bl fl]) (h10.free ht9)
      have e11 : Same H9 (upd (upd H10 l9 (.lst [])) t9 (.tup [v9, v9, .bl fl])) := e10.trans (Same.new ht9)
      rw [← efl]
      obtain ⟨kvs, hT1, lk1, hadd⟩ := (hTd9.mono s11 (fun o e => e11 _ _ e)).add hnew
      have Tt : TT ≠ t9 := ne_of_none (e10 _ _ (T89 _ hT0)) ht9
      refine ⟨_, rfl, _, rfl, TT, _, rfl, DPut.k (k := .inr hd.name) hT1 (by rw [lk1, sizeLine_eq]; omega), ?_⟩
      have nT11 : upd F9 t9 (.tup [v9, v9, .bl fl]) TT = none := by rw [upd_ne Tt]; exact nT9
      have hN9 := e11 _ _ g9.at_
      have Nt : NN ≠ t9 := ne_of_none (e10 _ _ g9.at_) ht9
      have nN11 : upd F9 t9 (.tup [v9, v9, .bl fl]) NN = none := by rw [upd_ne Nt]; exact g9.nf
      have hq := I.sim
      rw [← efl] at hq
      refine ⟨_, _, td ++ [(hd.name, ⟨(opn 3 (p + (lstR hd.rows).length) (numb p (lstR hd.rows))).1, (opn 3 (p + (lstR hd.rows).length) (numb p (lstR hd.rows))).1, fl⟩)], _, _, _, _, _, _, _, _, _, _, rfl, (sF.trans g89.ff).trans s11, (g11.set (o := .dK (putK kvs (.inr hd.name) (.ref t9))) nT11 hT1 (.inl trivial)).fh, nN11, upd_at hN9 TN.symm, nT11, hadd _ _ _ _ (Same.refl _) (.tup (SqT.of upd_same) (.cons (d9.mono s11) (.cons (d9.mono s11) (.cons (.bl _) .nil)))) hq.ly, ?_, fun k hd2 hk hhd2 => ?_⟩
      · rw [List.map_append, hkeys, htk, List.map_append]
        rfl
      · rw [lkp_app hnew]
        by_cases ek : k = i
        · subst ek
          rw [hhd] at hhd2
          cases hhd2
          rw [if_pos rfl]
          have hlab := I.lab
          rw [← efl] at hlab
          exact ⟨_, rfl, hq, hlab⟩
        · obtain ⟨t, z1, z2, z3⟩ := hall k hd2 (by omega) hhd2
          rw [if_neg (fun e => hnew (by rw [← e]; exact List.mem_map.mpr ⟨_, lkp_mem z1, rfl⟩))]
          exact ⟨t, z1, z2.mono I.le (Nat.le_refl _), z3⟩
    · rintro σ H' ⟨F', p, td, y1, y2, x1, x2, x3, x4, x5, x16, x17, x18, rfl, sF, hF', nN, hN, nT, hTd, hkeys, hall⟩
      refine ⟨F', p, td, _, _, _, _, _, _, _, _, _, _, rfl, sF, hF', nN, hN, nT, hTd, ?_, fun k hd hk => hall k hd ?_ hk⟩
      · have z := congrArg List.length hkeys
        rw [List.length_map, List.length_map, List.length_take] at z
        omega
      rw [hh2.lenM]
      exact (List.getElem?_eq_some_iff.mp hk).1
  rintro σ' H8 ⟨F8, p8, td8, y1', y2', x1', x2', x3', x4', x5', x16, x17, x18, rfl, s68, hF8, nN8, hN8, nT8, hTd8, htl8, hall8⟩
  have hF9 : Same F8 H8 := hF8
  have f48 : Same F4 F8 := s46.trans s68
  have lhn : pg.hands.length ≤ 3 := by
    rw [← hn_len, hn]
    unfold Tree.hn
    rw [List.length_map]
    omega
  have sim0 : Sim pg SS f0 Ef st (pg.hands.map fun _ => 0) (pg.boxes.map Bo.start) (pg.book (pg.boxes.map Bo.start)) td8 p8 200 := by
    refine ⟨rfl, List.length_map _, List.length_map _, ?_, fun k h hk => ?_⟩
    · rw [inS_inR c]
      exact in_start laid.1 tr pok.bnd
    · have hk2 := hk
      rw [hn] at hk2
      unfold Tree.hn at hk2
      rw [List.getElem?_map] at hk2
      obtain ⟨hd, hd1, rfl⟩ := Option.map_eq_some_iff.mp hk2
      obtain ⟨t, z1, z2, z3⟩ := hall8 k hd hd1
      have e0 : lk (pg.plcs (pg.hands.map fun _ => 0)) hd.name = 0 := by
        unfold Pg.plcs
        rw [List.map_const']
        exact zeros _ _ _
      rw [e0]
      exact ⟨t, z1, z2, z3⟩
  refine ⟨_, rfl, _, rfl, F8, pg, hF8, dx4.mono f48, pok, fun F9 v9 H9 g9 d9 => ?_⟩
  have W9 : LawF K F9 (.ref tP) D HL BL pg st := LawF.mono ⟨dx4.mono f48, s68 _ _ (s6 _ _ fD), fun q hq => s68 _ _ (s6 _ _ (hst q hq)), by rw [hn]; exact f48 _ _ fHL, s68 _ _ fBL⟩ g9.ff
  have hTdc := hTd8
  obtain ⟨⟨as8, hT8, _⟩, _⟩ := hTdc
  have I9 : LawI K NN TT pg SS f0 Ef st F9 H9 p8 (pg.hands.map fun _ => 0) (pg.boxes.map Bo.start) (pg.book (pg.boxes.map Bo.start)) td8 B v9 200 :=
    ⟨g9.fh, g9.non hN8 nN8, g9.kp _ _ hN8 (fun z => z), g9.non hT8 nT8, hTd8.mono g9.ff (fun o e => g9.kp _ _ e (fun z => z)), htl8, g9.ff _ _ (s68 _ _ (s6 _ _ fB)), d9, sim0⟩
  have fa9 : SqL K F9 a (zs.map V.int) := sqL_mono (f04.trans (f48.trans g9.ff)) fa
  refine ⟨fun σ' H' => ∃ (F' : Hp) (p : Int) (ps vs : List Int) (b : Bk) (td : Tds) (B' : Addr) (stand : V) (L : Nat) (y1 y2 x1 x2 x3 x4 x5 x16 x17 x18 x20 x21 x22 x23 : Option V), σ' = [some (.ref a), y1, y2, some (.ref tT), some (.ref tP), some (.ref HL), some (.ref D), some (.ref B'), x1, x2, x3, x4, x5, some (.ref BL), some (.ref TT), some (.ref NN), x16, x17, x18, some stand, x20, x21, x22, x23, none] ∧ Same F9 F' ∧ L ≤ 90000 ∧ LawI K NN TT pg SS f0 Ef st F' H' p ps vs b td B' stand L, ?_, ?_⟩
  · refine ⟨(by show 1 ≤ sizeLine; decide), fun u1 hu1 => ⟨_, rfl, _, rfl, a, _, rfl, sqL_mono (g9.fh.trans (Same.new hu1)) fa9, fun u2 hu2 => ?_⟩⟩
    obtain ⟨cs, ecs⟩ : ∃ cs, cs = cutV (zs.map V.int) (some 3) none := ⟨_, rfl⟩
    rw [← ecs]
    have lcs : cs.length ≤ 63 := by
      have z := cutV_length (zs.map V.int) (some 3) none
      rw [← ecs, List.length_map] at z
      omega
    have ics : ∀ v ∈ cs, ∃ z, v = V.int z := fun v hv => by
      rw [ecs] at hv
      unfold cutV at hv
      obtain ⟨z, _, e⟩ := List.mem_map.mp (List.mem_of_mem_drop (List.mem_of_mem_take hv))
      exact ⟨z, e.symm⟩
    refine ⟨u1, u2, [.int 0], cs, rfl, rfl, Same.new hu2 _ _ upd_same, upd_same, by rw [sizeLine_eq]; show 1 + cs.length ≤ _; omega, fun u3 hu3 => ?_⟩
    have icl : ∀ v ∈ ([.int 0] ++ cs : List V), ∃ z, v = V.int z := fun v hv => by
      rcases List.mem_append.mp hv with hv | hv
      · exact ⟨0, List.mem_singleton.mp hv⟩
      · exact ics v hv
    obtain ⟨cl, ecl⟩ : ∃ cl, cl = ([.int 0] ++ cs : List V) := ⟨_, rfl⟩
    have lcl : cl.length ≤ 64 := by
      rw [ecl]
      show cs.length + 1 ≤ 64
      omega
    rw [← ecl] at icl ⊢
    have e93 : Same H9 (upd (upd H9 u1 (.lst [.int 0])) u2 (.lst cs)) := (Same.new hu1).trans (Same.new hu2)
    have e9 : Same H9 (upd (upd (upd H9 u1 (.lst [.int 0])) u2 (.lst cs)) u3 (.lst cl)) := e93.trans (Same.new hu3)
    have g10 : Gr Any F9 H9 (upd F9 u3 (.lst cl)) (upd (upd (upd H9 u1 (.lst [.int 0])) u2 (.lst cs)) u3 (.lst cl)) := ((Gr.refl g9.fh).same e93).newF hu3
    have s910 := Same.new (o := .lst cl) ((g9.fh.trans e93).free hu3)
    have N3 : NN ≠ u3 := ne_of_none (e93 _ _ I9.hN) hu3
    have T3 : TT ≠ u3 := ne_of_none (e93 _ _ (g9.kp _ _ hT8 (fun z => z))) hu3
    have I10 : LawI K NN TT pg SS f0 Ef st (upd F9 u3 (.lst cl)) (upd (upd (upd H9 u1 (.lst [.int 0])) u2 (.lst cs)) u3 (.lst cl)) p8 (pg.hands.map fun _ => 0) (pg.boxes.map Bo.start) (pg.book (pg.boxes.map Bo.start)) td8 B v9 200 :=
      ⟨g10.fh, by rw [upd_ne N3]; exact I9.nN, e9 _ _ I9.hN, by rw [upd_ne T3]; exact I9.nT, I9.td_.mono s910 (fun o e => e9 _ _ e), htl8, s910 _ _ I9.bk_, I9.sd_.mono s910, sim0⟩
    refine ⟨u3, rfl, ⟨_, SqL.of upd_same⟩, for_list (K := K) (a := u3) (xs := cl) (fun i σ H' => ∃ (F' : Hp) (p : Int) (ps vs : List Int) (b : Bk) (td : Tds) (B' : Addr) (stand : V) (y1 y2 x1 x2 x3 x4 x5 x16 x17 x18 x20 x21 x22 x23 : Option V), σ = [some (.ref a), y1, y2, some (.ref tT), some (.ref tP), some (.ref HL), some (.ref D), some (.ref B'), x1, x2, x3, x4, x5, some (.ref BL), some (.ref TT), some (.ref NN), x16, x17, x18, some stand, x20, x21, x22, x23, none] ∧ Same F9 F' ∧ F' u3 = some (.lst cl) ∧ LawI K NN TT pg SS f0 Ef st F' H' p ps vs b td B' stand (200 + 50 * i))
      ⟨_, _, _, _, _, _, _, _, _, _, _, _, _, _, _, _, _, _, _, _, _, _, rfl, s910, upd_same, I10⟩ (fun i σ H' _ ⟨F', _, _, _, _, _, _, _, _, _, _, _, _, _, _, _, _, _, _, _, _, _, _, _, fu, I⟩ => SqL.of (I.fh _ _ fu)) ?_ ?_⟩
    · rintro i v σ H' hi ⟨F', p, ps, vs, b, td, B', stand, z1, z2, w1, w2, w3, w4, w5, w16, w17, w18, w20, w21, w22, w23, rfl, sF, fu, I⟩
      obtain ⟨cz, rfl⟩ := icl v (List.mem_of_getElem? hi)
      have hil := (List.getElem?_eq_some_iff.mp hi).1
      refine ⟨_, rfl, _, rfl, _, rfl, _, rfl, _, rfl, _, rfl, _, rfl, _, rfl, goes_call TN c lhn (W9.mono sF) I (by omega) fun F2 H2 l xs P2 g2 hP fl hxl hall => ?_⟩
      have sF2 := sF.trans g2.ff
      have hTc := I.td_
      obtain ⟨⟨as0, hT0, _⟩, _⟩ := hTc
      have hT2 : TdAt K F2 H2 TT td := I.td_.mono g2.ff fun o e => g2.gr.kp _ _ e (fun z => TN z)
      have hTv := g2.gr.kp _ _ hT0 (fun z => TN z)
      have nT2 : F2 TT = none := g2.gr.non hT0 I.nT
      refine ⟨_, rfl, _, rfl, ite_nb (by rfl) ?_⟩
      refine ⟨_, rfl, l, _, rfl, .inl (SqL.of (g2.fh _ _ fl)), _, _, rfl, rfl, _, rfl, ?_⟩
      by_cases h0 : xs = []
      · refine ite_nb (by rw [h0]; rfl) ?_
        exact ⟨F2, P2, ps, vs, b, td, B', stand, _, _, _, _, _, _, _, _, _, _, _, _, _, _, rfl, sF2, g2.ff _ _ fu, ⟨g2.fh, g2.nf, g2.at_, nT2, hT2, I.tl, g2.ff _ _ I.bk_, I.sd_.mono g2.ff, I.sim.mono hP (by omega)⟩⟩
      · have hpos : 0 < xs.length := List.length_pos_iff.mpr h0
        refine ite_b (decide_eq_true (by show (xs.length : Int) > 0; omega)) ?_
        have hm0 : 0 ≤ cz.fmod (xs.length : Int) := Int.fmod_nonneg_of_pos cz (by omega)
        have hm1 : cz.fmod (xs.length : Int) < xs.length := Int.fmod_lt_of_pos cz (by omega)
        obtain ⟨ix, hix⟩ : ∃ ix : Nat, cz.fmod (xs.length : Int) = (ix : Int) := ⟨_, (Int.toNat_of_nonneg hm0).symm⟩
        obtain ⟨it, hit⟩ : ∃ it, xs[ix]? = some it := ⟨_, List.getElem?_eq_getElem (by omega)⟩
        obtain ⟨t, mvv, sdv, h, b', es, ps', vs', rfl, k1', ⟨tm, mx, my, rfl, k2', ⟨ba, rfl, hba⟩, k3'⟩, k4', j⟩ := hall it (List.mem_of_getElem? hit)
        obtain ⟨hh, t0, ht0, hdg, hel, hle, hL2, hstep⟩ := sim_step c I.sim j
        have kk1 := g2.fh.tup k1'
        have kk2 := g2.fh.tup k2'
        obtain ⟨tv, tg, td1, tl⟩ := hT2.get ht0
        obtain ⟨tt, q1, q2, q3, rfl, r1, r2, r3, r4⟩ := td1.tup3
        refine ⟨_, rfl, _, rfl, _, rfl, l, _, rfl, .inl (SqL.of (g2.fh _ _ fl)), _, _, rfl, rfl, (by omega), l, xs, _, _, rfl, rfl, SqL.of (g2.fh _ _ fl), (by rw [hix]; exact atI_nat hit), ?_⟩
        refine ⟨t, _, rfl, kk1, rfl, _, _, rfl, _, _, rfl, _, _, rfl, rfl, ?_⟩
        refine ⟨_, rfl, tm, _, 0, _, rfl, rfl, kk2, at0, ?_⟩
        refine ⟨_, rfl, _, rfl, TT, _, rfl, tg, tt, _, 0, _, rfl, rfl, g2.fh.tup r1, at0, _, rfl, tm, _, 1, _, rfl, rfl, kk2, at1, _, rfl, _, _, rfl, F2, NN, P2, es, Ef h, 3, rfl, g2.sub, k3', hdg, by decide, by omega, fun F3 H3 v3 g3 d3 => ?_⟩
        have nT3 : F3 TT = none := g3.gr.non hTv nT2
        have hT3' : TdAt K F3 H3 TT td := hT2.mono g3.ff fun o e => g3.gr.kp _ _ e (fun z => TN z)
        have hTv3 := g3.gr.kp _ _ hTv (fun z => TN z)
        obtain ⟨tv2, tg2, td2, _⟩ := hT3'.get ht0
        obtain ⟨tt2, u1', u2', u3', rfl, m1, m2, m3, m4⟩ := td2.tup3
        refine ⟨_, rfl, _, rfl, TT, _, rfl, tg2, tt2, _, 2, _, rfl, rfl, g3.fh.tup m1, rfl, (by show 3 ≤ sizeLine; decide), fun t9 ht9 => ?_⟩
        have g11 : Gr Any F3 H3 (upd F3 t9 (.tup [q1, v3, u3'])) (upd H3 t9 (.tup [q1, v3, u3'])) := (Gr.refl g3.fh).newF ht9
        have s11 := Same.new (o := .tup [q1, v3, u3']) (g3.fh.free ht9)
        have e11 : Same H3 (upd H3 t9 (.tup [q1, v3, u3'])) := Same.new ht9
        obtain ⟨kvs, hT11, lk1, hput⟩ := (hT3'.mono s11 (fun o e => e11 _ _ e)).put ht0
        have Tt : TT ≠ t9 := ne_of_none hTv3 ht9
        have Nt : NN ≠ t9 := ne_of_none g3.at_ ht9
        have ltd : kvs.length ≤ 1000 := by
          rw [lk1]
          have := I.tl
          omega
        refine ⟨_, rfl, _, rfl, TT, _, rfl, DPut.k (k := .inr h) hT11 (by rw [sizeLine_eq]; omega), ?_⟩
        have nT11 : upd F3 t9 (.tup [q1, v3, u3']) TT = none := by rw [upd_ne Tt]; exact nT3
        have nN11 : upd F3 t9 (.tup [q1, v3, u3']) NN = none := by rw [upd_ne Nt]; exact g3.nf
        have dnew : Da K (upd F3 t9 (.tup [q1, v3, u3'])) (.ref t9) (Tdo.d ⟨t0.first, (opn 3 P2 es).1, t0.flag⟩) := .tup (SqT.of upd_same) (.cons ((r2.mono g3.ff).mono s11) (.cons (d3.mono s11) (.cons (m4.mono s11) .nil)))
        refine ⟨_, _, ps', vs', b', _, ba, sdv, _, _, _, _, _, _, _, _, _, _, _, _, _, _, rfl, (sF2.trans g3.ff).trans s11, s11 _ _ (g3.ff _ _ (g2.ff _ _ fu)),
          ⟨(g11.set (o := .dK (putK kvs (.inr h) (.ref t9))) nT11 hT11 (.inl trivial)).fh, nN11, upd_at (e11 _ _ g3.at_) TN.symm, nT11, hput _ _ _ _ (Same.refl _) dnew hL2, (by unfold putL; rw [List.length_map]; exact I.tl), s11 _ _ (g3.ff _ _ hba), (k4'.mono g3.ff).mono s11, (hstep _ (Int.le_refl _)).mono (Int.le_refl _) (by omega)⟩⟩
    · rintro σ H' ⟨F', p, ps, vs, b, td, B', stand, z1, z2, w1, w2, w3, w4, w5, w16, w17, w18, w20, w21, w22, w23, rfl, sF, fu, I⟩
      exact ⟨F', p, ps, vs, b, td, B', stand, _, _, _, _, _, _, _, _, _, _, _, _, _, _, _, rfl, sF, by omega, I⟩
  · rintro σ' H10 ⟨F10, p, ps, vs, b, td, B', stand, L, z1, z2, w1, w2, w3, w4, w5, w16, w17, w18, w20, w21, w22, w23, rfl, s910, hL, I⟩
    refine ⟨_, rfl, _, rfl, _, rfl, _, rfl, _, rfl, _, rfl, _, rfl, _, rfl, goes_call TN c lhn (W9.mono s910) I hL fun F' H' l xs P' _ _ _ _ _ => ?_⟩
    exact q _
end
end Ca
set_option Elab.async false
set_option linter.all false
set_option maxRecDepth 100000
set_option maxHeartbeats 0
namespace Ca
open PySem PySem.Spec PyProof.Rows L2
/-! ## the top, by facts -/
structure FactsK (K : PySem.W.Frag) (mg : Str → Option Value) (C : Addr) : Prop where
  G : Glb K mg
  L : LCls K C
  f_value : FunAt K mg "value" s_value
  f_holds : FunAt K mg "holds" s_holds
  f_members : FunAt K mg "members" s_members
  f_boxes_of : FunAt K mg "boxes_of" s_boxes_of
  f_statements : FunAt K mg "statements" s_statements
  f_row_count : FunAt K mg "row_count" s_row_count
  f_rows_count : FunAt K mg "rows_count" s_rows_count
  f_rounds_count : FunAt K mg "rounds_count" s_rounds_count
  f_counted : FunAt K mg "counted" s_counted
  f_sums_in : FunAt K mg "sums_in" s_sums_in
  f_ats_in : FunAt K mg "ats_in" s_ats_in
  f_want_remark : FunAt K mg "want_remark" s_want_remark
  f_lay_mark : FunAt K mg "lay_mark" s_lay_mark
  f_lay_plain : FunAt K mg "lay_plain" s_lay_plain
  f_lay_if : FunAt K mg "lay_if" s_lay_if
  f_lay_while : FunAt K mg "lay_while" s_lay_while
  f_lay_either : FunAt K mg "lay_either" s_lay_either
  f_lay_statement : FunAt K mg "lay_statement" s_lay_statement
  f_lay_rows : FunAt K mg "lay_rows" s_lay_rows
  f_want_unlike : FunAt K mg "want_unlike" s_want_unlike
  f_all_boxes : FunAt K mg "all_boxes" s_all_boxes
  f_placed : FunAt K mg "placed" s_placed
  f_want_labels : FunAt K mg "want_labels" s_want_labels
  f_said : FunAt K mg "said" s_said
  f_lay_out : FunAt K mg "lay_out" s_lay_out
  f_book_of : FunAt K mg "book_of" s_book_of
  f_places_of : FunAt K mg "places_of" s_places_of
  f_first_stand : FunAt K mg "first_stand" s_first_stand
  f_values_behind : FunAt K mg "values_behind" s_values_behind
  f_behind_step : FunAt K mg "behind_step" s_behind_step
  f_can : FunAt K mg "can" s_can
  f_done : FunAt K mg "done" s_done
  f_law_cell_at : FunAt K mg "_law_cell_at" s_l_cell_at
  f_law_state : FunAt K mg "_law_state" s_l_state
  f_law_take : FunAt K mg "_law_take" s_l_take
  f_law_name : FunAt K mg "_law_name" s_l_name
  f_law_number : FunAt K mg "_law_number" s_l_number
  f_law_sum : FunAt K mg "_law_sum" s_l_sum
  f_law_remark : FunAt K mg "_law_remark" s_l_remark
  f_law_plain : FunAt K mg "_law_plain" s_l_plain
  f_law_rows : FunAt K mg "_law_rows" s_l_rows
  f_law_statement : FunAt K mg "_law_statement" s_l_statement
  f_law_rounds : FunAt K mg "_law_rounds" s_l_rounds
  f_law_statements : FunAt K mg "_law_statements" s_l_statements
  f_law_count : FunAt K mg "_law_count" s_l_count
  f_law_counts : FunAt K mg "_law_counts" s_l_counts
  f_law_box : FunAt K mg "_law_box" s_l_box
  f_law_tree : FunAt K mg "_law_tree" s_l_tree
  f_law_value : FunAt K mg "_law_value" s_l_value
  f_law_at : FunAt K mg "_law_at" s_l_at
  f_law_true : FunAt K mg "_law_true" s_l_true
  f_law_list : FunAt K mg "_law_list" s_l_list
  f_law_opened : FunAt K mg "_law_opened" s_l_opened
  f_law_set : FunAt K mg "_law_set" s_l_set
  f_law_moves : FunAt K mg "_law_moves" s_l_moves
  f_law_ways : FunAt K mg "_law_ways" s_l_ways
  f_law_goes_on : FunAt K mg "_law_goes_on" s_l_goes_on
  m_begin_hand : MetAt K C "begin_hand" "Laying.begin_hand" s_Laying_begin_hand
  m_new_place : MetAt K C "new_place" "Laying.new_place" s_Laying_new_place
  m_want_lock : MetAt K C "want_lock" "Laying.want_lock" s_Laying_want_lock
  m_want_any : MetAt K C "want_any" "Laying.want_any" s_Laying_want_any
  m_want_box : MetAt K C "want_box" "Laying.want_box" s_Laying_want_box
  m_add_step : MetAt K C "add_step" "Laying.add_step" s_Laying_add_step
  mki : MakAt K mg "Laying" C "Laying.__init__" s_Laying__init_
section
variable {P : Program} {w : World} {K : PySem.W.Frag} {mg : Str → Option Value} {base : Heap} {C : Addr}
theorem law_fn (A : FactsK K mg C) {f : Addr} {fd : FuncData} (FL : Fun K "law" "law" s_law f fd) : FnOk P w K mg base CX0 19 f fd ["_law_script"] (spLaw K) := by
  obtain ⟨G, L, f_value, f_holds, f_members, f_boxes_of, f_statements, f_row_count, f_rows_count, f_rounds_count, f_counted, f_sums_in, f_ats_in, f_want_remark, f_lay_mark, f_lay_plain, f_lay_if, f_lay_while, f_lay_either, f_lay_statement, f_lay_rows, f_want_unlike, f_all_boxes, f_placed, f_want_labels, f_said, f_lay_out, f_book_of, f_places_of, f_first_stand, f_values_behind, f_behind_step, f_can, f_done, f_law_cell_at, f_law_state, f_law_take, f_law_name, f_law_number, f_law_sum, f_law_remark, f_law_plain, f_law_rows, f_law_statement, f_law_rounds, f_law_statements, f_law_count, f_law_counts, f_law_box, f_law_tree, f_law_value, f_law_at, f_law_true, f_law_list, f_law_opened, f_law_set, f_law_moves, f_law_ways, f_law_goes_on, m_begin_hand, m_new_place, m_want_lock, m_want_any, m_want_box, m_add_step, mki⟩ := A
  have c1 := ok_value (P := P) (w := w) (base := base) f_value
  have c2 := ok_boxes_of (P := P) (w := w) (base := base) f_boxes_of
  have c3 := ok_statements (P := P) (w := w) (base := base) f_statements G
  have c4 := ok_members (P := P) (w := w) (base := base) f_members G
  have c5 := ok_holds f_holds G c1 3
  have c6 := ok_sums_in f_sums_in G c4 2
  have c7 := ok_ats_in f_ats_in G c4 2
  have c8 := (ok_counts f_row_count f_rows_count f_rounds_count G c3 3).2.1
  have c9 := ok_counted f_counted G c8
  have m1 := ok_begin (P := P) (w := w) (base := base) m_begin_hand G L
  have m2 := ok_newp (P := P) (w := w) (base := base) m_new_place G L
  have m3 := ok_wantL (P := P) (w := w) (base := base) m_want_lock G L
  have m4 := ok_wantA (P := P) (w := w) (base := base) m_want_any G L
  have m5 := ok_wantB (P := P) (w := w) (base := base) m_want_box G L
  have m6 := ok_add (P := P) (w := w) (base := base) m_add_step G L
  have m7 := ok_init (P := P) (w := w) (base := base) mki G L
  have c10 := ok_wantR f_want_remark G L c6 c7 c2 m4 m5
  have c11 := ok_mark f_lay_mark G L c10
  have c12 := ok_plain f_lay_plain G L c10 c2 m5 m3 m6
  have c13 := (ok_lstm f_lay_rows f_lay_statement f_lay_if f_lay_while f_lay_either G L c3 c11 c12 c10 m2 m6 3).2
  have c14 := ok_unlike (P := P) (w := w) (base := base) f_want_unlike G
  have c15 := ok_allB (P := P) (w := w) (base := base) f_all_boxes G
  have c16 := ok_placed (P := P) (w := w) (base := base) f_placed G L
  have c17 := ok_wantLabs (P := P) (w := w) (base := base) f_want_labels G L
  have c18 := ok_said f_said G L (c16 2)
  have c19 := ok_lay_out f_lay_out G L c14 c9 m7 m1 c13 c17 (c16 3) c18 c15
  have c20 := ok_book (P := P) (w := w) (base := base) f_book_of G
  have c21 := ok_places (P := P) (w := w) (base := base) f_places_of G
  have c22 := ok_first (P := P) (w := w) (base := base) f_first_stand G
  have c23 := ok_values f_values_behind G c1
  have c24 := ok_behind f_behind_step G c21 c20 c5 c23
  have c25 := ok_can f_can G c24
  have c26 := ok_done f_done G c24
  have l1 := ok_cell (P := P) (w := w) (base := base) f_law_cell_at G
  have l2 := ok_state (P := P) (w := w) (base := base) f_law_state G
  have l3 := ok_take (P := P) (w := w) (base := base) f_law_take G
  have l4 := ok_name (P := P) (w := w) (base := base) f_law_name G
  have l5 := ok_number f_law_number G l3
  have l6 := ok_sum f_law_sum G l3 l5
  have l7 := ok_remark f_law_remark G l3 l6 2
  have l8 := ok_plainG f_law_plain G l3 l6 l7
  have l9 := (ok_gen f_law_rows f_law_statement f_law_rounds G l3 l7 l8 3).2
  have l10 := ok_lstatements (P := P) (w := w) (base := base) f_law_statements G
  have l11 := (ok_lcount f_law_count f_law_counts G l10 3).2
  have l12 := ok_boxG f_law_box G l3
  have l13 := ok_tree f_law_tree G l3 l4 l12 l9 l11
  have l14 := ok_lvalue (P := P) (w := w) (base := base) f_law_value
  have l15 := ok_at (P := P) (w := w) (base := base) f_law_at G
  have l16 := ok_true f_law_true G l14 l15 2
  have l17 := ok_list f_law_list G l10
  have l18 := ok_open f_law_opened G l17
  have l19 := ok_setL f_law_set G l14
  have l20 := ok_moves f_law_moves G l19 l16 l17
  have l21 := ok_ways f_law_ways G c25 c26
  have l22 := ok_goes f_law_goes_on G l20 l21
  exact ok_law FL G l1 l2 l13 c19 l17 l18 l10 c22 l22
end
/-! ### a hook with tuples -/
def tupA (K : PySem.W.Frag) (a : Addr) (vs : List He.Dv) : Bool := match K.lookup a with
  | some ⟨.type c, _, .seq its _, _⟩ => decide (c = "tuple") && (decide (its.size ≤ sizeLine) && He.relAll (vs.map (He.Dv.v K)) its.toList)
  | _ => false
theorem tupA_ok {K : PySem.W.Frag} {a : Addr} {vs : List He.Dv} (h : tupA K a vs = true) (H : Hp) : SqT K H a (vs.map (He.Dv.v K)) := by
  unfold tupA at h
  cases q : K.lookup a with
  | none =>
    rw [q] at h
    cases h
  | some o =>
    obtain ⟨oc, od, dt, osl⟩ := o
    rw [q] at h
    cases oc with
    | type c =>
      cases dt with
      | seq its n =>
        obtain ⟨h1, h2⟩ := He.ba (show (decide (c = "tuple") && (decide (its.size ≤ sizeLine) && He.relAll (vs.map (He.Dv.v K)) its.toList)) = true from h)
        obtain ⟨h3, h4⟩ := He.ba h2
        exact .inr ⟨_, its, n, q, congrArg Value.type (of_decide_eq_true h1), rfl, of_decide_eq_true h3, He.relAll_ok h4⟩
      | _ => cases h
    | _ => cases dt <;> cases h
/-- the tuple's i-th item -/
def itA (x : Str) (i : Nat) (K : PySem.W.Frag) : Addr := match K.lookup (He.ga K x) with
  | some ⟨_, _, .seq its _, _⟩ => (match its[i]? with
    | some (.ref a) => a
    | _ => 0)
  | _ => 0
def exB (K : PySem.W.Frag) : Bool := tupA K (He.ga K "MARKS") [.str "label", .str "say"] && (tupA K (He.ga K "PLAIN") [.str "set", .str "wait", .str "take", .str "give"] && (tupA K (He.ga K "TRUE") [.str "and", .adr (itA "TRUE" 1)] && tupA K (itA "TRUE" 1 K) []))
def hookC (n : Nat) (fa : List He.Fa) (fn : List He.DefD) (ex : PySem.W.Frag → Bool) : PySem.W.Hook where
  α := He.AlD × Bool
  obs := fun s => (He.obsDG n fa fn s.heap.get?, ex (He.frG s.heap.get? (He.asD s.heap.get? n)))
  val := fun _ => (He.valD fn, true)
  says := fun _ h => ∃ K : PySem.W.Frag, K.In h ∧ He.SaysD fa fn K ∧ ex K = true
  of := fun _ _ e => ⟨_, He.frG_in, congrArg Prod.fst e, congrArg Prod.snd e⟩
  keeps := fun _ _ _ ⟨K, hK, c⟩ k => ⟨K, PySem.W.Frag.In.keeps hK k, c⟩
def obsC (n : Nat) (fa : List He.Fa) (fn : List He.DefD) (ex : PySem.W.Frag → Bool) (g : Addr → Option Obj) : He.AlD × Bool := (He.obsDG n fa fn g, ex (He.frG g (He.asD g n)))
theorem obsC_eq {n : Nat} {fa : List He.Fa} {fn : List He.DefD} {ex : PySem.W.Frag → Bool} {g : Addr → Option Obj} {s : Shared} (h : ∀ a, g a = s.heap.get? a) : obsC n fa fn ex g = (hookC n fa fn ex).obs s := by
  have e : g = s.heap.get? := funext h
  rw [e] <;> rfl
theorem fun_of {K : PySem.W.Frag} {x q : Str} {st : Stmt} {f : Addr} {fd : FuncData} (F : FunD K x q (defArgs st) (defBody st) (defScope st) [] [] f fd) : Fun K x q st f fd := by
  obtain ⟨oc, od, dV, kV, doc, pm, an, cdv, ct, osl, e, lk, hcd, hD, hK⟩ := F.ex
  rcases hD with ⟨_, rfl⟩ | ⟨e2, _⟩
  · exact ⟨⟨oc, od, kV, doc, pm, an, cdv, ct, osl, e, lk, hcd⟩, F.kp⟩
  · exact absurd rfl e2
theorem facts_of {fa : List He.Fa} {fn : List He.DefD} {K : PySem.W.Frag} (c : He.SaysD fa fn K) {f : He.Fa} (h : f ∈ fa) : f.ok K = true := by
  have c1 := (He.ba (show ((fa.all fun f => f.ok K) && fn.all fun d => d.ok K) = true from congrArg (fun z : He.AlD => z.1) c)).1
  exact List.all_eq_true.mp c1 f h
/-! ### the data -/
def d_value : He.DefD := ⟨("value", none), "value", "value", defArgs s_value, defBody s_value, defScope s_value, [], []⟩
def d_holds : He.DefD := ⟨("holds", none), "holds", "holds", defArgs s_holds, defBody s_holds, defScope s_holds, [], []⟩
def d_members : He.DefD := ⟨("members", none), "members", "members", defArgs s_members, defBody s_members, defScope s_members, [], []⟩
def d_boxes_of : He.DefD := ⟨("boxes_of", none), "boxes_of", "boxes_of", defArgs s_boxes_of, defBody s_boxes_of, defScope s_boxes_of, [], []⟩
def d_statements : He.DefD := ⟨("statements", none), "statements", "statements", defArgs s_statements, defBody s_statements, defScope s_statements, [], []⟩
def d_row_count : He.DefD := ⟨("row_count", none), "row_count", "row_count", defArgs s_row_count, defBody s_row_count, defScope s_row_count, [], []⟩
def d_rows_count : He.DefD := ⟨("rows_count", none), "rows_count", "rows_count", defArgs s_rows_count, defBody s_rows_count, defScope s_rows_count, [], []⟩
def d_rounds_count : He.DefD := ⟨("rounds_count", none), "rounds_count", "rounds_count", defArgs s_rounds_count, defBody s_rounds_count, defScope s_rounds_count, [], []⟩
def d_counted : He.DefD := ⟨("counted", none), "counted", "counted", defArgs s_counted, defBody s_counted, defScope s_counted, [], []⟩
def d_sums_in : He.DefD := ⟨("sums_in", none), "sums_in", "sums_in", defArgs s_sums_in, defBody s_sums_in, defScope s_sums_in, [], []⟩
def d_ats_in : He.DefD := ⟨("ats_in", none), "ats_in", "ats_in", defArgs s_ats_in, defBody s_ats_in, defScope s_ats_in, [], []⟩
def d_want_remark : He.DefD := ⟨("want_remark", none), "want_remark", "want_remark", defArgs s_want_remark, defBody s_want_remark, defScope s_want_remark, [], []⟩
def d_lay_mark : He.DefD := ⟨("lay_mark", none), "lay_mark", "lay_mark", defArgs s_lay_mark, defBody s_lay_mark, defScope s_lay_mark, [], []⟩
def d_lay_plain : He.DefD := ⟨("lay_plain", none), "lay_plain", "lay_plain", defArgs s_lay_plain, defBody s_lay_plain, defScope s_lay_plain, [], []⟩
def d_lay_if : He.DefD := ⟨("lay_if", none), "lay_if", "lay_if", defArgs s_lay_if, defBody s_lay_if, defScope s_lay_if, [], []⟩
def d_lay_while : He.DefD := ⟨("lay_while", none), "lay_while", "lay_while", defArgs s_lay_while, defBody s_lay_while, defScope s_lay_while, [], []⟩
def d_lay_either : He.DefD := ⟨("lay_either", none), "lay_either", "lay_either", defArgs s_lay_either, defBody s_lay_either, defScope s_lay_either, [], []⟩
def d_lay_statement : He.DefD := ⟨("lay_statement", none), "lay_statement", "lay_statement", defArgs s_lay_statement, defBody s_lay_statement, defScope s_lay_statement, [], []⟩
def d_lay_rows : He.DefD := ⟨("lay_rows", none), "lay_rows", "lay_rows", defArgs s_lay_rows, defBody s_lay_rows, defScope s_lay_rows, [], []⟩
def d_want_unlike : He.DefD := ⟨("want_unlike", none), "want_unlike", "want_unlike", defArgs s_want_unlike, defBody s_want_unlike, defScope s_want_unlike, [], []⟩
def d_all_boxes : He.DefD := ⟨("all_boxes", none), "all_boxes", "all_boxes", defArgs s_all_boxes, defBody s_all_boxes, defScope s_all_boxes, [], []⟩
def d_placed : He.DefD := ⟨("placed", none), "placed", "placed", defArgs s_placed, defBody s_placed, defScope s_placed, [], []⟩
def d_want_labels : He.DefD := ⟨("want_labels", none), "want_labels", "want_labels", defArgs s_want_labels, defBody s_want_labels, defScope s_want_labels, [], []⟩
def d_said : He.DefD := ⟨("said", none), "said", "said", defArgs s_said, defBody s_said, defScope s_said, [], []⟩
def d_lay_out : He.DefD := ⟨("lay_out", none), "lay_out", "lay_out", defArgs s_lay_out, defBody s_lay_out, defScope s_lay_out, [], []⟩
def d_book_of : He.DefD := ⟨("book_of", none), "book_of", "book_of", defArgs s_book_of, defBody s_book_of, defScope s_book_of, [], []⟩
def d_places_of : He.DefD := ⟨("places_of", none), "places_of", "places_of", defArgs s_places_of, defBody s_places_of, defScope s_places_of, [], []⟩
def d_first_stand : He.DefD := ⟨("first_stand", none), "first_stand", "first_stand", defArgs s_first_stand, defBody s_first_stand, defScope s_first_stand, [], []⟩
def d_values_behind : He.DefD := ⟨("values_behind", none), "values_behind", "values_behind", defArgs s_values_behind, defBody s_values_behind, defScope s_values_behind, [], []⟩
def d_behind_step : He.DefD := ⟨("behind_step", none), "behind_step", "behind_step", defArgs s_behind_step, defBody s_behind_step, defScope s_behind_step, [], []⟩
def d_can : He.DefD := ⟨("can", none), "can", "can", defArgs s_can, defBody s_can, defScope s_can, [], []⟩
def d_done : He.DefD := ⟨("done", none), "done", "done", defArgs s_done, defBody s_done, defScope s_done, [], []⟩
def d_law_cell_at : He.DefD := ⟨("_law_cell_at", none), "_law_cell_at", "_law_cell_at", defArgs s_l_cell_at, defBody s_l_cell_at, defScope s_l_cell_at, [], []⟩
def d_law_state : He.DefD := ⟨("_law_state", none), "_law_state", "_law_state", defArgs s_l_state, defBody s_l_state, defScope s_l_state, [], []⟩
def d_law_take : He.DefD := ⟨("_law_take", none), "_law_take", "_law_take", defArgs s_l_take, defBody s_l_take, defScope s_l_take, [], []⟩
def d_law_name : He.DefD := ⟨("_law_name", none), "_law_name", "_law_name", defArgs s_l_name, defBody s_l_name, defScope s_l_name, [], []⟩
def d_law_number : He.DefD := ⟨("_law_number", none), "_law_number", "_law_number", defArgs s_l_number, defBody s_l_number, defScope s_l_number, [], []⟩
def d_law_sum : He.DefD := ⟨("_law_sum", none), "_law_sum", "_law_sum", defArgs s_l_sum, defBody s_l_sum, defScope s_l_sum, [], []⟩
def d_law_remark : He.DefD := ⟨("_law_remark", none), "_law_remark", "_law_remark", defArgs s_l_remark, defBody s_l_remark, defScope s_l_remark, [], []⟩
def d_law_plain : He.DefD := ⟨("_law_plain", none), "_law_plain", "_law_plain", defArgs s_l_plain, defBody s_l_plain, defScope s_l_plain, [], []⟩
def d_law_rows : He.DefD := ⟨("_law_rows", none), "_law_rows", "_law_rows", defArgs s_l_rows, defBody s_l_rows, defScope s_l_rows, [], []⟩
def d_law_statement : He.DefD := ⟨("_law_statement", none), "_law_statement", "_law_statement", defArgs s_l_statement, defBody s_l_statement, defScope s_l_statement, [], []⟩
def d_law_rounds : He.DefD := ⟨("_law_rounds", none), "_law_rounds", "_law_rounds", defArgs s_l_rounds, defBody s_l_rounds, defScope s_l_rounds, [], []⟩
def d_law_statements : He.DefD := ⟨("_law_statements", none), "_law_statements", "_law_statements", defArgs s_l_statements, defBody s_l_statements, defScope s_l_statements, [], []⟩
def d_law_count : He.DefD := ⟨("_law_count", none), "_law_count", "_law_count", defArgs s_l_count, defBody s_l_count, defScope s_l_count, [], []⟩
def d_law_counts : He.DefD := ⟨("_law_counts", none), "_law_counts", "_law_counts", defArgs s_l_counts, defBody s_l_counts, defScope s_l_counts, [], []⟩
def d_law_box : He.DefD := ⟨("_law_box", none), "_law_box", "_law_box", defArgs s_l_box, defBody s_l_box, defScope s_l_box, [], []⟩
def d_law_tree : He.DefD := ⟨("_law_tree", none), "_law_tree", "_law_tree", defArgs s_l_tree, defBody s_l_tree, defScope s_l_tree, [], []⟩
def d_law_value : He.DefD := ⟨("_law_value", none), "_law_value", "_law_value", defArgs s_l_value, defBody s_l_value, defScope s_l_value, [], []⟩
def d_law_at : He.DefD := ⟨("_law_at", none), "_law_at", "_law_at", defArgs s_l_at, defBody s_l_at, defScope s_l_at, [], []⟩
def d_law_true : He.DefD := ⟨("_law_true", none), "_law_true", "_law_true", defArgs s_l_true, defBody s_l_true, defScope s_l_true, [], []⟩
def d_law_list : He.DefD := ⟨("_law_list", none), "_law_list", "_law_list", defArgs s_l_list, defBody s_l_list, defScope s_l_list, [], []⟩
def d_law_opened : He.DefD := ⟨("_law_opened", none), "_law_opened", "_law_opened", defArgs s_l_opened, defBody s_l_opened, defScope s_l_opened, [], []⟩
def d_law_set : He.DefD := ⟨("_law_set", none), "_law_set", "_law_set", defArgs s_l_set, defBody s_l_set, defScope s_l_set, [], []⟩
def d_law_moves : He.DefD := ⟨("_law_moves", none), "_law_moves", "_law_moves", defArgs s_l_moves, defBody s_l_moves, defScope s_l_moves, [], []⟩
def d_law_ways : He.DefD := ⟨("_law_ways", none), "_law_ways", "_law_ways", defArgs s_l_ways, defBody s_l_ways, defScope s_l_ways, [], []⟩
def d_law_goes_on : He.DefD := ⟨("_law_goes_on", none), "_law_goes_on", "_law_goes_on", defArgs s_l_goes_on, defBody s_l_goes_on, defScope s_l_goes_on, [], []⟩
def d_law : He.DefD := ⟨("law", none), "law", "law", defArgs s_law, defBody s_law, defScope s_law, [], []⟩
def dm_begin_hand : He.DefD := ⟨("Laying", some "begin_hand"), "begin_hand", "Laying.begin_hand", defArgs s_Laying_begin_hand, defBody s_Laying_begin_hand, defScope s_Laying_begin_hand, [], []⟩
def dm_new_place : He.DefD := ⟨("Laying", some "new_place"), "new_place", "Laying.new_place", defArgs s_Laying_new_place, defBody s_Laying_new_place, defScope s_Laying_new_place, [], []⟩
def dm_want_lock : He.DefD := ⟨("Laying", some "want_lock"), "want_lock", "Laying.want_lock", defArgs s_Laying_want_lock, defBody s_Laying_want_lock, defScope s_Laying_want_lock, [], []⟩
def dm_want_any : He.DefD := ⟨("Laying", some "want_any"), "want_any", "Laying.want_any", defArgs s_Laying_want_any, defBody s_Laying_want_any, defScope s_Laying_want_any, [], []⟩
def dm_want_box : He.DefD := ⟨("Laying", some "want_box"), "want_box", "Laying.want_box", defArgs s_Laying_want_box, defBody s_Laying_want_box, defScope s_Laying_want_box, [], []⟩
def dm_add_step : He.DefD := ⟨("Laying", some "add_step"), "add_step", "Laying.add_step", defArgs s_Laying_add_step, defBody s_Laying_add_step, defScope s_Laying_add_step, [], []⟩
def dm_init : He.DefD := ⟨("Laying", some "__init__"), "__init__", "Laying.__init__", defArgs s_Laying__init_, defBody s_Laying__init_, defScope s_Laying__init_, [], []⟩
def fn0 : List He.DefD := [d_value, d_holds, d_members, d_boxes_of, d_statements, d_row_count, d_rows_count, d_rounds_count, d_counted, d_sums_in, d_ats_in, d_want_remark, d_lay_mark, d_lay_plain, d_lay_if, d_lay_while]
def fn1 : List He.DefD := [d_lay_either, d_lay_statement, d_lay_rows, d_want_unlike, d_all_boxes, d_placed, d_want_labels, d_said, d_lay_out, d_book_of, d_places_of, d_first_stand, d_values_behind, d_behind_step, d_can, d_done]
def fn2 : List He.DefD := [d_law_cell_at, d_law_state, d_law_take, d_law_name, d_law_number, d_law_sum, d_law_remark, d_law_plain, d_law_rows, d_law_statement, d_law_rounds, d_law_statements, d_law_count, d_law_counts, d_law_box, d_law_tree]
def fn3 : List He.DefD := [d_law_value, d_law_at, d_law_true, d_law_list, d_law_opened, d_law_set, d_law_moves, d_law_ways, d_law_goes_on, d_law, dm_begin_hand, dm_new_place, dm_want_lock, dm_want_any, dm_want_box, dm_add_step]
def fn4 : List He.DefD := [dm_init]
def fnA : List He.DefD := fn0 ++ fn1 ++ fn2 ++ fn3 ++ fn4
def fa0 : List He.Fa := [.glo "value", .glo "holds", .glo "members", .glo "boxes_of", .glo "statements", .glo "row_count", .glo "rows_count", .glo "rounds_count", .glo "counted", .glo "sums_in", .glo "ats_in", .glo "want_remark", .glo "lay_mark", .glo "lay_plain", .glo "lay_if", .glo "lay_while"]
def fa1 : List He.Fa := [.glo "lay_either", .glo "lay_statement", .glo "lay_rows", .glo "want_unlike", .glo "all_boxes", .glo "placed", .glo "want_labels", .glo "said", .glo "lay_out", .glo "book_of", .glo "places_of", .glo "first_stand", .glo "values_behind", .glo "behind_step", .glo "can", .glo "done"]
def fa2 : List He.Fa := [.glo "_law_cell_at", .glo "_law_state", .glo "_law_take", .glo "_law_name", .glo "_law_number", .glo "_law_sum", .glo "_law_remark", .glo "_law_plain", .glo "_law_rows", .glo "_law_statement", .glo "_law_rounds", .glo "_law_statements", .glo "_law_count", .glo "_law_counts", .glo "_law_box", .glo "_law_tree"]
def fa3 : List He.Fa := [.glo "_law_value", .glo "_law_at", .glo "_law_true", .glo "_law_list", .glo "_law_opened", .glo "_law_set", .glo "_law_moves", .glo "_law_ways", .glo "_law_goes_on", .glo "law", .glo "Laying", .cls "Laying", .mkr "Laying", .noat "Laying" "hands", .noat "Laying" "locks", .noat "Laying" "boxes"]
def fa4 : List He.Fa := [.noat "Laying" "owners", .noat "Laying" "steps", .noat "Laying" "labels", .noat "Laying" "says", .noat "Laying" "asked", .noat "Laying" "hand", .noat "Laying" "many", .meth "Laying" "begin_hand", .meth "Laying" "new_place", .meth "Laying" "want_lock", .meth "Laying" "want_any", .meth "Laying" "want_box", .meth "Laying" "add_step", .free "range", .free "len", .free "all"]
def fa5 : List He.Fa := [.free "any", .free "sorted", .free "tuple", .free "list", .free "dict", .free "zip", .free "int", .free "min", .free "sum", .free "reversed", .int "MOST_PLACES" 24, .int "MOST_STEPS" 40, .glo "MARKS", .glo "PLAIN", .glo "TRUE"]
def faA : List He.Fa := fa0 ++ fa1 ++ fa2 ++ fa3 ++ fa4 ++ fa5
def nms0 : List Str := ["__name__", "CalmError", "NoName", "Twice", "TooMany", "value", "boxes_of", "TRUE", "holds", "members", "MOST_PLACES", "MOST_STEPS", "PLAIN", "MARKS", "statements", "row_count", "rows_count", "rounds_count"]
def nms1 : List Str := ["counted", "Laying", "sums_in", "ats_in", "want_remark", "lay_mark", "lay_plain", "lay_if", "lay_while", "lay_either", "lay_statement", "lay_rows", "want_unlike", "all_boxes", "placed", "want_labels", "said", "lay_out"]
def nms2 : List Str := ["book_of", "places_of", "first_stand", "values_behind", "behind_step", "can", "done", "_law_cell_at", "_law_state", "_law_take", "_law_name", "_law_number", "_law_sum", "_law_remark", "_law_plain", "_law_rows", "_law_statement", "_law_rounds"]
def nms3 : List Str := ["_law_statements", "_law_count", "_law_counts", "_law_box", "_law_tree", "_law_value", "_law_at", "_law_true", "_law_list", "_law_opened", "_law_set", "_law_moves", "_law_ways", "_law_goes_on"]
def namesA : List Str := nms0 ++ nms1 ++ nms2 ++ nms3
abbrev RowC : PySem.W.OpenRow := PySem.W.OpenLaw.row PySem.Challenge.rw_calm_k19_whole_steps_as_the_text_tells
abbrev hk : PySem.W.Hook := hookC 5 faA fnA exB
def obC (s : PySem.W.SharedT) : He.AlD × Bool := obsC 5 faA fnA exB (HandSHeadRun.getT s)
theorem obC_eq (s : PySem.W.SharedT) : obC s = hk.obs s.abs := obsC_eq (HandSHeadRun.getT_eq s)
theorem runC (w : World) : HandSHeadRun.RunEq RowC (PySem.W.view RowC.prog [73]) hk obC 12000 namesA w := by
  intro os
  kernel_rfl
section
variable {K : PySem.W.Frag} {h : Heap} {mg : Str → Option Value}
theorem facts_all (X : K.In h) (G : h.Ns mainGlobals mg) (c : He.SaysD faA fnA K) (ex : exB K = true) : FactsK K mg (He.ga K "Laying") := by
  obtain ⟨x1, ex⟩ := He.ba ex
  obtain ⟨x2, ex⟩ := He.ba ex
  obtain ⟨x3, x4⟩ := He.ba ex
  have t3 := fun H => tupA_ok x3 H
  have t4 := fun H => tupA_ok x4 H
  obtain ⟨g_0, F_0⟩ := c.def_ 0 (d := d_value) rfl
  obtain ⟨g_1, F_1⟩ := c.def_ 1 (d := d_holds) rfl
  obtain ⟨g_2, F_2⟩ := c.def_ 2 (d := d_members) rfl
  obtain ⟨g_3, F_3⟩ := c.def_ 3 (d := d_boxes_of) rfl
  obtain ⟨g_4, F_4⟩ := c.def_ 4 (d := d_statements) rfl
  obtain ⟨g_5, F_5⟩ := c.def_ 5 (d := d_row_count) rfl
  obtain ⟨g_6, F_6⟩ := c.def_ 6 (d := d_rows_count) rfl
  obtain ⟨g_7, F_7⟩ := c.def_ 7 (d := d_rounds_count) rfl
  obtain ⟨g_8, F_8⟩ := c.def_ 8 (d := d_counted) rfl
  obtain ⟨g_9, F_9⟩ := c.def_ 9 (d := d_sums_in) rfl
  obtain ⟨g_10, F_10⟩ := c.def_ 10 (d := d_ats_in) rfl
  obtain ⟨g_11, F_11⟩ := c.def_ 11 (d := d_want_remark) rfl
  obtain ⟨g_12, F_12⟩ := c.def_ 12 (d := d_lay_mark) rfl
  obtain ⟨g_13, F_13⟩ := c.def_ 13 (d := d_lay_plain) rfl
  obtain ⟨g_14, F_14⟩ := c.def_ 14 (d := d_lay_if) rfl
  obtain ⟨g_15, F_15⟩ := c.def_ 15 (d := d_lay_while) rfl
  obtain ⟨g_16, F_16⟩ := c.def_ 16 (d := d_lay_either) rfl
  obtain ⟨g_17, F_17⟩ := c.def_ 17 (d := d_lay_statement) rfl
  obtain ⟨g_18, F_18⟩ := c.def_ 18 (d := d_lay_rows) rfl
  obtain ⟨g_19, F_19⟩ := c.def_ 19 (d := d_want_unlike) rfl
  obtain ⟨g_20, F_20⟩ := c.def_ 20 (d := d_all_boxes) rfl
  obtain ⟨g_21, F_21⟩ := c.def_ 21 (d := d_placed) rfl
  obtain ⟨g_22, F_22⟩ := c.def_ 22 (d := d_want_labels) rfl
  obtain ⟨g_23, F_23⟩ := c.def_ 23 (d := d_said) rfl
  obtain ⟨g_24, F_24⟩ := c.def_ 24 (d := d_lay_out) rfl
  obtain ⟨g_25, F_25⟩ := c.def_ 25 (d := d_book_of) rfl
  obtain ⟨g_26, F_26⟩ := c.def_ 26 (d := d_places_of) rfl
  obtain ⟨g_27, F_27⟩ := c.def_ 27 (d := d_first_stand) rfl
  obtain ⟨g_28, F_28⟩ := c.def_ 28 (d := d_values_behind) rfl
  obtain ⟨g_29, F_29⟩ := c.def_ 29 (d := d_behind_step) rfl
  obtain ⟨g_30, F_30⟩ := c.def_ 30 (d := d_can) rfl
  obtain ⟨g_31, F_31⟩ := c.def_ 31 (d := d_done) rfl
  obtain ⟨g_32, F_32⟩ := c.def_ 32 (d := d_law_cell_at) rfl
  obtain ⟨g_33, F_33⟩ := c.def_ 33 (d := d_law_state) rfl
  obtain ⟨g_34, F_34⟩ := c.def_ 34 (d := d_law_take) rfl
  obtain ⟨g_35, F_35⟩ := c.def_ 35 (d := d_law_name) rfl
  obtain ⟨g_36, F_36⟩ := c.def_ 36 (d := d_law_number) rfl
  obtain ⟨g_37, F_37⟩ := c.def_ 37 (d := d_law_sum) rfl
  obtain ⟨g_38, F_38⟩ := c.def_ 38 (d := d_law_remark) rfl
  obtain ⟨g_39, F_39⟩ := c.def_ 39 (d := d_law_plain) rfl
  obtain ⟨g_40, F_40⟩ := c.def_ 40 (d := d_law_rows) rfl
  obtain ⟨g_41, F_41⟩ := c.def_ 41 (d := d_law_statement) rfl
  obtain ⟨g_42, F_42⟩ := c.def_ 42 (d := d_law_rounds) rfl
  obtain ⟨g_43, F_43⟩ := c.def_ 43 (d := d_law_statements) rfl
  obtain ⟨g_44, F_44⟩ := c.def_ 44 (d := d_law_count) rfl
  obtain ⟨g_45, F_45⟩ := c.def_ 45 (d := d_law_counts) rfl
  obtain ⟨g_46, F_46⟩ := c.def_ 46 (d := d_law_box) rfl
  obtain ⟨g_47, F_47⟩ := c.def_ 47 (d := d_law_tree) rfl
  obtain ⟨g_48, F_48⟩ := c.def_ 48 (d := d_law_value) rfl
  obtain ⟨g_49, F_49⟩ := c.def_ 49 (d := d_law_at) rfl
  obtain ⟨g_50, F_50⟩ := c.def_ 50 (d := d_law_true) rfl
  obtain ⟨g_51, F_51⟩ := c.def_ 51 (d := d_law_list) rfl
  obtain ⟨g_52, F_52⟩ := c.def_ 52 (d := d_law_opened) rfl
  obtain ⟨g_53, F_53⟩ := c.def_ 53 (d := d_law_set) rfl
  obtain ⟨g_54, F_54⟩ := c.def_ 54 (d := d_law_moves) rfl
  obtain ⟨g_55, F_55⟩ := c.def_ 55 (d := d_law_ways) rfl
  obtain ⟨g_56, F_56⟩ := c.def_ 56 (d := d_law_goes_on) rfl
  obtain ⟨gm_0, Fm_0⟩ := c.def_ 58 (d := dm_begin_hand) rfl
  obtain ⟨gm_1, Fm_1⟩ := c.def_ 59 (d := dm_new_place) rfl
  obtain ⟨gm_2, Fm_2⟩ := c.def_ 60 (d := dm_want_lock) rfl
  obtain ⟨gm_3, Fm_3⟩ := c.def_ 61 (d := dm_want_any) rfl
  obtain ⟨gm_4, Fm_4⟩ := c.def_ 62 (d := dm_want_box) rfl
  obtain ⟨gm_5, Fm_5⟩ := c.def_ 63 (d := dm_add_step) rfl
  obtain ⟨gi, Fi⟩ := c.def_ 64 (d := dm_init) rfl
  have hc := He.cls_ok (x := "Laying") (c.fact 59 (f := .cls "Laying") rfl)
  refine { G := ?G, L := ⟨hc, fun f hf => ?_⟩, f_value := ⟨_, _, He.glo_ok X G (c.fact 0 (f := .glo "value") rfl), fun_of F_0⟩, f_holds := ⟨_, _, He.glo_ok X G (c.fact 1 (f := .glo "holds") rfl), fun_of F_1⟩, f_members := ⟨_, _, He.glo_ok X G (c.fact 2 (f := .glo "members") rfl), fun_of F_2⟩, f_boxes_of := ⟨_, _, He.glo_ok X G (c.fact 3 (f := .glo "boxes_of") rfl), fun_of F_3⟩, f_statements := ⟨_, _, He.glo_ok X G (c.fact 4 (f := .glo "statements") rfl), fun_of F_4⟩, f_row_count := ⟨_, _, He.glo_ok X G (c.fact 5 (f := .glo "row_count") rfl), fun_of F_5⟩, f_rows_count := ⟨_, _, He.glo_ok X G (c.fact 6 (f := .glo "rows_count") rfl), fun_of F_6⟩, f_rounds_count := ⟨_, _, He.glo_ok X G (c.fact 7 (f := .glo "rounds_count") rfl), fun_of F_7⟩, f_counted := ⟨_, _, He.glo_ok X G (c.fact 8 (f := .glo "counted") rfl), fun_of F_8⟩, f_sums_in := ⟨_, _, He.glo_ok X G (c.fact 9 (f := .glo "sums_in") rfl), fun_of F_9⟩, f_ats_in := ⟨_, _, He.glo_ok X G (c.fact 10 (f := .glo "ats_in") rfl), fun_of F_10⟩, f_want_remark := ⟨_, _, He.glo_ok X G (c.fact 11 (f := .glo "want_remark") rfl), fun_of F_11⟩, f_lay_mark := ⟨_, _, He.glo_ok X G (c.fact 12 (f := .glo "lay_mark") rfl), fun_of F_12⟩, f_lay_plain := ⟨_, _, He.glo_ok X G (c.fact 13 (f := .glo "lay_plain") rfl), fun_of F_13⟩, f_lay_if := ⟨_, _, He.glo_ok X G (c.fact 14 (f := .glo "lay_if") rfl), fun_of F_14⟩, f_lay_while := ⟨_, _, He.glo_ok X G (c.fact 15 (f := .glo "lay_while") rfl), fun_of F_15⟩, f_lay_either := ⟨_, _, He.glo_ok X G (c.fact 16 (f := .glo "lay_either") rfl), fun_of F_16⟩, f_lay_statement := ⟨_, _, He.glo_ok X G (c.fact 17 (f := .glo "lay_statement") rfl), fun_of F_17⟩, f_lay_rows := ⟨_, _, He.glo_ok X G (c.fact 18 (f := .glo "lay_rows") rfl), fun_of F_18⟩, f_want_unlike := ⟨_, _, He.glo_ok X G (c.fact 19 (f := .glo "want_unlike") rfl), fun_of F_19⟩, f_all_boxes := ⟨_, _, He.glo_ok X G (c.fact 20 (f := .glo "all_boxes") rfl), fun_of F_20⟩, f_placed := ⟨_, _, He.glo_ok X G (c.fact 21 (f := .glo "placed") rfl), fun_of F_21⟩, f_want_labels := ⟨_, _, He.glo_ok X G (c.fact 22 (f := .glo "want_labels") rfl), fun_of F_22⟩, f_said := ⟨_, _, He.glo_ok X G (c.fact 23 (f := .glo "said") rfl), fun_of F_23⟩, f_lay_out := ⟨_, _, He.glo_ok X G (c.fact 24 (f := .glo "lay_out") rfl), fun_of F_24⟩, f_book_of := ⟨_, _, He.glo_ok X G (c.fact 25 (f := .glo "book_of") rfl), fun_of F_25⟩, f_places_of := ⟨_, _, He.glo_ok X G (c.fact 26 (f := .glo "places_of") rfl), fun_of F_26⟩, f_first_stand := ⟨_, _, He.glo_ok X G (c.fact 27 (f := .glo "first_stand") rfl), fun_of F_27⟩, f_values_behind := ⟨_, _, He.glo_ok X G (c.fact 28 (f := .glo "values_behind") rfl), fun_of F_28⟩, f_behind_step := ⟨_, _, He.glo_ok X G (c.fact 29 (f := .glo "behind_step") rfl), fun_of F_29⟩, f_can := ⟨_, _, He.glo_ok X G (c.fact 30 (f := .glo "can") rfl), fun_of F_30⟩, f_done := ⟨_, _, He.glo_ok X G (c.fact 31 (f := .glo "done") rfl), fun_of F_31⟩, f_law_cell_at := ⟨_, _, He.glo_ok X G (c.fact 32 (f := .glo "_law_cell_at") rfl), fun_of F_32⟩, f_law_state := ⟨_, _, He.glo_ok X G (c.fact 33 (f := .glo "_law_state") rfl), fun_of F_33⟩, f_law_take := ⟨_, _, He.glo_ok X G (c.fact 34 (f := .glo "_law_take") rfl), fun_of F_34⟩, f_law_name := ⟨_, _, He.glo_ok X G (c.fact 35 (f := .glo "_law_name") rfl), fun_of F_35⟩, f_law_number := ⟨_, _, He.glo_ok X G (c.fact 36 (f := .glo "_law_number") rfl), fun_of F_36⟩, f_law_sum := ⟨_, _, He.glo_ok X G (c.fact 37 (f := .glo "_law_sum") rfl), fun_of F_37⟩, f_law_remark := ⟨_, _, He.glo_ok X G (c.fact 38 (f := .glo "_law_remark") rfl), fun_of F_38⟩, f_law_plain := ⟨_, _, He.glo_ok X G (c.fact 39 (f := .glo "_law_plain") rfl), fun_of F_39⟩, f_law_rows := ⟨_, _, He.glo_ok X G (c.fact 40 (f := .glo "_law_rows") rfl), fun_of F_40⟩, f_law_statement := ⟨_, _, He.glo_ok X G (c.fact 41 (f := .glo "_law_statement") rfl), fun_of F_41⟩, f_law_rounds := ⟨_, _, He.glo_ok X G (c.fact 42 (f := .glo "_law_rounds") rfl), fun_of F_42⟩, f_law_statements := ⟨_, _, He.glo_ok X G (c.fact 43 (f := .glo "_law_statements") rfl), fun_of F_43⟩, f_law_count := ⟨_, _, He.glo_ok X G (c.fact 44 (f := .glo "_law_count") rfl), fun_of F_44⟩, f_law_counts := ⟨_, _, He.glo_ok X G (c.fact 45 (f := .glo "_law_counts") rfl), fun_of F_45⟩, f_law_box := ⟨_, _, He.glo_ok X G (c.fact 46 (f := .glo "_law_box") rfl), fun_of F_46⟩, f_law_tree := ⟨_, _, He.glo_ok X G (c.fact 47 (f := .glo "_law_tree") rfl), fun_of F_47⟩, f_law_value := ⟨_, _, He.glo_ok X G (c.fact 48 (f := .glo "_law_value") rfl), fun_of F_48⟩, f_law_at := ⟨_, _, He.glo_ok X G (c.fact 49 (f := .glo "_law_at") rfl), fun_of F_49⟩, f_law_true := ⟨_, _, He.glo_ok X G (c.fact 50 (f := .glo "_law_true") rfl), fun_of F_50⟩, f_law_list := ⟨_, _, He.glo_ok X G (c.fact 51 (f := .glo "_law_list") rfl), fun_of F_51⟩, f_law_opened := ⟨_, _, He.glo_ok X G (c.fact 52 (f := .glo "_law_opened") rfl), fun_of F_52⟩, f_law_set := ⟨_, _, He.glo_ok X G (c.fact 53 (f := .glo "_law_set") rfl), fun_of F_53⟩, f_law_moves := ⟨_, _, He.glo_ok X G (c.fact 54 (f := .glo "_law_moves") rfl), fun_of F_54⟩, f_law_ways := ⟨_, _, He.glo_ok X G (c.fact 55 (f := .glo "_law_ways") rfl), fun_of F_55⟩, f_law_goes_on := ⟨_, _, He.glo_ok X G (c.fact 56 (f := .glo "_law_goes_on") rfl), fun_of F_56⟩, m_begin_hand := ⟨_, _, hc, He.meth_ok (c.fact 71 (f := .meth "Laying" "begin_hand") rfl), fun_of Fm_0⟩, m_new_place := ⟨_, _, hc, He.meth_ok (c.fact 72 (f := .meth "Laying" "new_place") rfl), fun_of Fm_1⟩, m_want_lock := ⟨_, _, hc, He.meth_ok (c.fact 73 (f := .meth "Laying" "want_lock") rfl), fun_of Fm_2⟩, m_want_any := ⟨_, _, hc, He.meth_ok (c.fact 74 (f := .meth "Laying" "want_any") rfl), fun_of Fm_3⟩, m_want_box := ⟨_, _, hc, He.meth_ok (c.fact 75 (f := .meth "Laying" "want_box") rfl), fun_of Fm_4⟩, m_add_step := ⟨_, _, hc, He.meth_ok (c.fact 76 (f := .meth "Laying" "add_step") rfl), fun_of Fm_5⟩, mki := ⟨_, _, He.mkr_ok (c.fact 60 (f := .mkr "Laying") rfl), He.glo_ok X G (c.fact 58 (f := .glo "Laying") rfl), fun_of Fi⟩ }
  case G =>
    exact { MARKS := ⟨_, He.glo_ok X G (c.fact 92 (f := .glo "MARKS") rfl), fun H => tupA_ok x1 H⟩, PLAIN := ⟨_, He.glo_ok X G (c.fact 93 (f := .glo "PLAIN") rfl), fun H => tupA_ok x2 H⟩, TRUE := ⟨_, He.glo_ok X G (c.fact 94 (f := .glo "TRUE") rfl), fun H => .tup (t3 H) (.cons (.str _) (.cons (.tup (t4 H) .nil) .nil))⟩, MOST_PLACES := He.int_ok X G (c.fact 90 (f := .int "MOST_PLACES" 24) rfl), MOST_STEPS := He.int_ok X G (c.fact 91 (f := .int "MOST_STEPS" 40) rfl), range := He.free_ok X G (c.fact 77 (f := .free "range") rfl), len := He.free_ok X G (c.fact 78 (f := .free "len") rfl), all := He.free_ok X G (c.fact 79 (f := .free "all") rfl), any := He.free_ok X G (c.fact 80 (f := .free "any") rfl), sorted := He.free_ok X G (c.fact 81 (f := .free "sorted") rfl), tuple := He.free_ok X G (c.fact 82 (f := .free "tuple") rfl), list := He.free_ok X G (c.fact 83 (f := .free "list") rfl), dict := He.free_ok X G (c.fact 84 (f := .free "dict") rfl), zip := He.free_ok X G (c.fact 85 (f := .free "zip") rfl), int := He.free_ok X G (c.fact 86 (f := .free "int") rfl), min := He.free_ok X G (c.fact 87 (f := .free "min") rfl), sum := He.free_ok X G (c.fact 88 (f := .free "sum") rfl), reversed := He.free_ok X G (c.fact 89 (f := .free "reversed") rfl) }
  · have hm : (He.Fa.noat "Laying" f) ∈ faA := by
      rcases List.mem_cons.mp hf with rfl | hf
      · exact List.mem_of_getElem? (i := 61) rfl
      rcases List.mem_cons.mp hf with rfl | hf
      · exact List.mem_of_getElem? (i := 62) rfl
      rcases List.mem_cons.mp hf with rfl | hf
      · exact List.mem_of_getElem? (i := 63) rfl
      rcases List.mem_cons.mp hf with rfl | hf
      · exact List.mem_of_getElem? (i := 64) rfl
      rcases List.mem_cons.mp hf with rfl | hf
      · exact List.mem_of_getElem? (i := 65) rfl
      rcases List.mem_cons.mp hf with rfl | hf
      · exact List.mem_of_getElem? (i := 66) rfl
      rcases List.mem_cons.mp hf with rfl | hf
      · exact List.mem_of_getElem? (i := 67) rfl
      rcases List.mem_cons.mp hf with rfl | hf
      · exact List.mem_of_getElem? (i := 68) rfl
      rcases List.mem_cons.mp hf with rfl | hf
      · exact List.mem_of_getElem? (i := 69) rfl
      rcases List.mem_cons.mp hf with rfl | hf
      · exact List.mem_of_getElem? (i := 70) rfl
      exact nomatch hf
    exact He.noat_ok (facts_of c hm)
theorem law_end {P : Program} {w : World} {f : Addr} (X : K.In h) (G : h.Ns mainGlobals mg) (hf : mg ("law" : Str) = some (.ref f)) (c : He.SaysD faA fnA K) (ex : exB K = true) :
    ∃ fd : FuncData, (∀ (s : Shared) (v : Value), BindsTo s fd ⟨[v], []⟩ [("_law_script", v)]) ∧ ∀ base : Heap, K.In base → base.Ns mainGlobals mg → FnOk P w K mg base CX0 19 f fd ["_law_script"] (spLaw K) := by
  obtain ⟨fd, F⟩ := c.def_ 57 (d := d_law) rfl
  have e := hf.symm.trans (He.glo_ok X G (c.fact 57 (f := .glo "law") rfl))
  cases e
  have b := FunD.bindsA (ps := ["_law_script"]) F fun _ _ _ _ _ _ us hl => match us, hl with | [_], _ => rfl
  exact ⟨fd, fun s v => b s [v] rfl, fun base _ _ => law_fn (facts_all X G c ex) (fun_of F)⟩
end
end Ca
open PySem PySem.W PySem.Calls PyProof.Rows
theorem PySem.Challenge.cw_calm_k19_whole_steps_as_the_text_tells_holds : PySem.Challenge.rw_calm_k19_whole_steps_as_the_text_tells.Holds := by
  w_on; o_law
  refine HandSHeadRun.head_any (r := OpenLaw.row PySem.Challenge.rw_calm_k19_whole_steps_as_the_text_tells) (q := view (OpenLaw.row PySem.Challenge.rw_calm_k19_whole_steps_as_the_text_tells).prog [73]) (H := Ca.hk) (ob := Ca.obC) (M := 12000) (loose := Ca.namesA) (d := HandSHeadRun.topDef (OpenLaw.row PySem.Challenge.rw_calm_k19_whole_steps_as_the_text_tells).prog 73) (kwd := []) Ca.obC_eq
    (by kernel_rfl) (fun s => by kernel_rfl) Ca.runC (by kernel_rfl) (by kernel_rfl) (by kernel_rfl) (by rfl) (by first | assumption | decide +kernel) (by decide +kernel) ⟨rfl, rfl, rfl, rfl, rfl, by decide +kernel⟩ ?hw ?hc
  case hw => w_witness2
  case hc =>
    refine L2.walk_ofE (l := PySem.Challenge.rw_calm_k19_whole_steps_as_the_text_tells) (n := 63) (k := 19) (x := "_law_script") (CX := L2.CX0) rfl (by decide) (by kernel_rfl) ⟨rfl, by decide, by decide⟩ ?F (fun _ _ _ _ z => z)
    intro w mg fa h Y G hmg0
    obtain ⟨K, KX, c, ex⟩ := Y
    have hmg : mg ("law" : PySem.Str) = some (.ref fa) := by
      have e : (HandSHeadRun.topDef (OpenLaw.row PySem.Challenge.rw_calm_k19_whole_steps_as_the_text_tells).prog 73).name = ("law" : PySem.Str) := by kernel_rfl
      rw [← e]
      exact hmg0
    obtain ⟨fd, hb, hF⟩ := Ca.law_end (P := (PySem.Challenge.rw_calm_k19_whole_steps_as_the_text_tells).prog) (w := w) KX G hmg c ex
    exact ⟨K, fd, Ca.spLaw K, KX, hb, fun H a ns hl _ hS => ⟨_, rfl, a, ns, rfl, hS, hl, fun _ => rfl⟩, hF⟩

