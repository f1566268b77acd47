import PyProof.Rows.All
import Wide.All
import OpenK.AllK
import Wide.FinOn
import HandS.ForMost
import HandS.IsInst
import HandS.Style
import HandS.Wide
import HandS.More
import HandS.CallLocal
import KE.KDictPairs
import PySem.Challenge.RW_typedback_k02_what_is_an_expression_or_a
set_option Elab.async false
set_option linter.all false
set_option maxRecDepth 100000
set_option maxHeartbeats 4000000
/-! GL: our own layer over the hand layer: defs by name, data that stays, rules that lack, short readings. -/
namespace G
open PySem PySem.Spec PyProof.Rows L2

/-! ### defs by name -/
/-- where a def of the text stands -/
def Df (K : PySem.W.Frag) (mg : Str → Option Value) (x : Str) (st : Stmt) : Prop := ∃ f fd, Fun K x x st f fd ∧ mg x = some (.ref f)
/-- a def that keeps a promise, called by its name -/
structure Has (P : Program) (w : World) (K : PySem.W.Frag) (mg : Str → Option Value) (base : Heap) (x : Str) (st : Stmt) (k : Nat) (ps : List Str) (sp : Sp) : Prop where
  ex : ∃ f fd, FnOk P w K mg base CX0 k f fd ps sp ∧ mg x = some (.ref f) ∧ Fun K x x st f fd ∧ Binds K fd ps []
section
variable {P : Program} {w : World} {K : PySem.W.Frag} {mg : Str → Option Value} {base : Heap}
theorem has_mk {x : Str} {st : Stmt} {N ps : List Str} {k : Nat} {sp : Sp} (D : Df K mg x st) (S : FnScope N ps (defScope st))
    (hb : ∀ (kV doc pm : Value) (an : Option Addr) (cdv ct : Value) (us : List Value), us.length = ps.length → bindArgs (PySem.W.fnOf x x (defArgs st) (defBody st) (defScope st) .none kV doc pm an cdv ct) ⟨us, []⟩ = pure (ps.zip us))
    (len : ∀ vs H Q E, sp vs H Q E → vs.length = ps.length)
    (hbody : ∀ (f : Addr) (cdv : Value) (A : Around) (outer : List Env) (s : Shared) (H : Hp) (vs : List V) (Q : VK) (E : XK), Room k (A.deeper (envOfC x (defScope st) s.heap.objs.size f cdv)) → sp vs H Q E →
      ∃ t, PSs (cxOf CX0 P w K mg base N x (defScope st) f cdv A outer s H E).nox (defBody st) t ∧ t { nx := fun _ H' => Q .non H', rt := Q } (start N vs) H) : Has P w K mg base x st (k + 1) ps sp := by
  obtain ⟨f, fd, F, m⟩ := D
  exact ⟨f, fd, F.ok S len (hbody f), m, F, F.binds hb⟩
theorem Has.mono {x : Str} {st : Stmt} {j k : Nat} {ps : List Str} {sp : Sp} (h : Has P w K mg base x st j ps sp) (hk : j ≤ k) : Has P w K mg base x st k ps sp := by
  obtain ⟨f, fd, F, m, b⟩ := h
  exact ⟨f, fd, F.mono hk, m, b⟩
/-- a weaker promise -/
theorem Has.imp {x : Str} {st : Stmt} {k : Nat} {ps : List Str} {sp sp' : Sp} (h : Has P w K mg base x st k ps sp) (hi : ∀ vs H Q E, sp' vs H Q E → sp vs H Q E) : Has P w K mg base x st k ps sp' := by
  obtain ⟨f, fd, F, m, b⟩ := h
  exact ⟨f, fd, F.imp hi, m, b⟩
end
section
variable {X : Cx} {x : Str} {st : Stmt} {k j : Nat} {ps : List Str} {sp : Sp} {p pos : Pos} {e : Expr} {es : List Expr} {t : TA}
theorem pe_callH (F : Has X.prog X.w X.K X.mg X.base x st k ps sp) (hr : Room j X.A) (hg : Gl X x) (ha : PA X (e :: es) t) (hk : k ≤ j := by decide)
    (hdb : (x == ("__debug__" : Str)) = false := by decide) (he : starEach (e :: es) X.env = (false, eval e X.env) :: starEach es X.env := by rfl) (hpl : (backTo pos (starEach es X.env)).any (·.1) = false := by rfl) :
    PE X (.Call (.Name x p) (e :: es) [] pos) (tCall sp [] E0 t) := by
  obtain ⟨f, fd, F, m, fn, b⟩ := F
  exact pe_call F (hr.mono hk) hg m fn.kp b .nil pass0 ha hdb he hpl
theorem pe_call0H (F : Has X.prog X.w X.K X.mg X.base x st k ps sp) (hr : Room j X.A) (hg : Gl X x) (hk : k ≤ j := by decide)
    (hdb : (x == ("__debug__" : Str)) = false := by decide) : PE X (.Call (.Name x p) [] [] pos) (tCall sp [] E0 tNil) := by
  obtain ⟨f, fd, F, m, fn, b⟩ := F
  exact pe_call0 F (hr.mono hk) hg m fn.kp b .nil pass0 hdb
end

/-! ### names of the module -/
section
variable {X : Cx} {x : Str} {pos : Pos}
theorem pe_gS {z : Str} (hg : Gl X x) (g : ∃ t, X.mg x = some (.str z t)) (hd : (x == ("__debug__" : Str)) = false := by decide) : PE X (.Name x pos) (tC (.str z)) := by
  obtain ⟨t, g⟩ := g
  exact pe_glob hg g ⟨t, rfl⟩ hd
theorem pe_gI {z : Int} (hg : Gl X x) (g : ∃ t, X.mg x = some (.int z t)) (hd : (x == ("__debug__" : Str)) = false := by decide) : PE X (.Name x pos) (tC (.int z)) := by
  obtain ⟨t, g⟩ := g
  exact pe_glob hg g ⟨t, rfl⟩ hd
/-- a tuple of the module's top -/
def tGT (K : PySem.W.Frag) (xs : List V) : TE := fun _ H Q => ∀ a, (∀ H', SqT K H' a xs) → Q (.ref a) H
theorem pe_gR {xs : List V} (hg : Gl X x) (g : ∃ a, X.mg x = some (.ref a) ∧ ∀ H', SqT X.K H' a xs) (hd : (x == ("__debug__" : Str)) = false := by decide) : PE X (.Name x pos) (tGT X.K xs) := by
  obtain ⟨a, g, h⟩ := g
  refine ⟨fun pins s σ H Q I q => ld_glob I hg g ⟨.ref a, H, I, rfl, q a h⟩ hd⟩
theorem pe_bT {n : String} (hg : Gl X x) (hm : X.mg x = none) (hv : bootBuiltins x = some (.type n)) (hn : x ≠ "__name__" := by decide) (hd : (x == ("__debug__" : Str)) = false := by decide) : PE X (.Name x pos) (tC (.ty n)) :=
  pe_bltn hg hm hv rfl hn hd
end

/-! ### rules that lack -/
section
variable {X : Cx}
/-- x is True, x is False, whatever x is -/
def rIsBV : R2 := fun x y H Q => ∃ b : Bool, y = .bl b ∧ Q (.bl (decide (x = .bl b))) H
theorem plain_bool {x : V} {v : Value} {b : Bool} (r : RelV x v) : plainIs v (.bool b) = true ∧ (v == Value.bool b) = decide (x = .bl b) := by
  cases x with
  | non => cases (show v = Value.none from r); exact ⟨rfl, (decide_eq_false (fun h => nomatch h)).symm⟩
  | bl c =>
    cases (show v = Value.bool c from r)
    refine ⟨rfl, ?_⟩
    cases b <;> cases c <;> rfl
  | int _ => obtain ⟨t, rfl⟩ := r; exact ⟨rfl, (decide_eq_false (fun h => nomatch h)).symm⟩
  | str _ => obtain ⟨t, rfl⟩ := r; exact ⟨rfl, (decide_eq_false (fun h => nomatch h)).symm⟩
  | byt _ => obtain ⟨t, rfl⟩ := r; exact ⟨rfl, (decide_eq_false (fun h => nomatch h)).symm⟩
  | flt _ => obtain ⟨t, rfl⟩ := r; exact ⟨rfl, (decide_eq_false (fun h => nomatch h)).symm⟩
  | ref _ => cases r; exact ⟨rfl, (decide_eq_false (fun h => nomatch h)).symm⟩
  | ty _ => cases r; exact ⟨rfl, (decide_eq_false (fun h => nomatch h)).symm⟩
theorem op_isBV : OpR X (compareOp .Is) rIsBV := by
  intro pins s σ H x y v u Q I rx ry h
  obtain ⟨b, rfl, q⟩ := h
  cases (show u = Value.bool b from ry)
  obtain ⟨p1, p2⟩ := plain_bool (b := b) rx
  exact wpAny_is_plain p1 ⟨.bl _, H, I, by rw [p2]; rfl, q⟩

/-- == and != of a list or a tuple with an empty one -/
def rEqE (K : PySem.W.Frag) (neg : Bool) : R2 := fun x y H Q => ∃ a b xs, x = .ref a ∧ y = .ref b ∧ ((SqL K H a xs ∧ SqL K H b []) ∨ (SqT K H a xs ∧ SqT K H b [])) ∧ Q (.bl (if neg then !xs.isEmpty else xs.isEmpty)) H
end

/-! ### the frozen part of the heap -/
def Ex (H H' : Hp) : Prop := ∀ a o, H a = some o → H' a = some o
theorem Ex.refl (H : Hp) : Ex H H := fun _ _ h => h
theorem Ex.trans {H H1 H2 : Hp} (a : Ex H H1) (b : Ex H1 H2) : Ex H H2 := fun x o h => b x o (a x o h)
theorem Ex.new {H : Hp} {p : Addr} {o : HO} (h : H p = none) : Ex H (upd H p o) := fun a u e => by
  rw [upd_ne (ne_of_none e h)]
  exact e
theorem Ex.free {H H' : Hp} {p : Addr} (e : Ex H H') (h : H' p = none) : H p = none := by
  cases q : H p with
  | none => rfl
  | some o =>
    rw [e p o q] at h
    cases h
theorem Ex.rd {H H' : Hp} {a : Addr} {u : HO} (e : Ex H H') (h : Rd H a u) : Rd H' a u := by
  rcases h with h | ⟨o, h⟩
  · exact Or.inl (e a _ h)
  · exact Or.inr ⟨o, e a _ h⟩
theorem Ex.l {K : PySem.W.Frag} {H H' : Hp} {a : Addr} {xs : List V} (e : Ex H H') (h : SqL K H a xs) : SqL K H' a xs := by
  rcases h with h | h
  · exact Or.inl (e.rd h)
  · exact Or.inr h
theorem Ex.t {K : PySem.W.Frag} {H H' : Hp} {a : Addr} {xs : List V} (e : Ex H H') (h : SqT K H a xs) : SqT K H' a xs := by
  rcases h with h | h
  · exact Or.inl (e.rd h)
  · exact Or.inr h
theorem Ex.mut {B H : Hp} {l : Addr} {o : HO} (e : Ex B H) (h : B l = none) : Ex B (upd H l o) := fun a u ha => by
  rw [upd_ne (ne_of_none ha h)]
  exact e a u ha

section
variable {K : PySem.W.Frag} {B B' H H' : Hp}
mutual
theorem Dp.up (e : Ex B B') : ∀ {d : PyData} {v : V}, Dp K B v d → Dp K B' v d
  | .none, _, h => by cases h; exact .non
  | .bool _, _, h => by cases h; exact .bl _
  | .int _, _, h => by cases h; exact .int _
  | .str _, _, h => by cases h; exact .str _
  | .list ds, _, h => by
    cases h with
    | lst hs ha => exact .lst (e.l hs) (Dps.up e ha)
  | .tuple ds, _, h => by
    cases h with
    | tup hs ha => exact .tup (e.t hs) (Dps.up e ha)
  | .dict _, _, h => by cases h
theorem Dps.up (e : Ex B B') : ∀ {ds : List PyData} {vs : List V}, DpAll K B vs ds → DpAll K B' vs ds
  | [], _, h => by cases h; exact .nil
  | _ :: _, _, h => by
    cases h with
    | cons h1 h2 => exact .cons (Dp.up e h1) (Dps.up e h2)
end
theorem Dps.len : ∀ {ds : List PyData} {vs : List V}, DpAll K B vs ds → vs.length = ds.length
  | [], _, h => by cases h; rfl
  | _ :: _, _, h => by
    cases h with
    | cons h1 h2 => rw [List.length_cons, List.length_cons, Dps.len h2]
theorem Dps.get : ∀ {ds : List PyData} {vs : List V} {i : Nat} {d : PyData}, DpAll K B vs ds → ds[i]? = some d → ∃ v, vs[i]? = some v ∧ Dp K B v d
  | [], _, _, _, _, e => by simp at e
  | _ :: _, _, i, _, h, e => by
    cases h with
    | cons h1 h2 =>
      cases i with
      | zero => exact ⟨_, rfl, by rw [← Option.some.inj e]; exact h1⟩
      | succ i => exact Dps.get (i := i) h2 e
theorem Dps.got : ∀ {ds : List PyData} {vs : List V} {i : Nat} {v : V}, DpAll K B vs ds → vs[i]? = some v → ∃ d, ds[i]? = some d ∧ Dp K B v d
  | [], _, _, _, h, e => by cases h; simp at e
  | _ :: _, _, i, _, h, e => by
    cases h with
    | cons h1 h2 =>
      cases i with
      | zero => exact ⟨_, rfl, by rw [← Option.some.inj e]; exact h1⟩
      | succ i => exact Dps.got (i := i) h2 e
theorem Dps.app : ∀ {ds es : List PyData} {vs us : List V}, DpAll K B vs ds → DpAll K B us es → DpAll K B (vs ++ us) (ds ++ es)
  | [], _, _, _, h, k => by cases h; exact k
  | _ :: _, _, _, _, h, k => by
    cases h with
    | cons h1 h2 => exact .cons h1 (Dps.app h2 k)
theorem Dps.one {v : V} {d : PyData} (h : Dp K B v d) : DpAll K B [v] [d] := .cons h .nil
theorem Dps.rev : ∀ {ds : List PyData} {vs : List V}, DpAll K B vs ds → DpAll K B vs.reverse ds.reverse
  | [], _, h => by cases h; exact .nil
  | _ :: _, _, h => by
    cases h with
    | cons h1 h2 =>
      rw [List.reverse_cons, List.reverse_cons]
      exact Dps.app (Dps.rev h2) (Dps.one h1)
theorem Dps.take : ∀ (n : Nat) {ds : List PyData} {vs : List V}, DpAll K B vs ds → DpAll K B (vs.take n) (ds.take n)
  | 0, _, _, _ => .nil
  | n + 1, [], _, h => by cases h; exact .nil
  | n + 1, _ :: _, _, h => by
    cases h with
    | cons h1 h2 => exact .cons h1 (Dps.take n h2)
theorem Dps.drop : ∀ (n : Nat) {ds : List PyData} {vs : List V}, DpAll K B vs ds → DpAll K B (vs.drop n) (ds.drop n)
  | 0, _, _, h => h
  | n + 1, [], _, h => by cases h; exact .nil
  | n + 1, _ :: _, _, h => by
    cases h with
    | cons h1 h2 => exact Dps.drop n h2
theorem Dps.init {ds : List PyData} {vs : List V} (h : DpAll K B vs ds) : DpAll K B vs.dropLast ds.dropLast := by
  rw [List.dropLast_eq_take, List.dropLast_eq_take, Dps.len h]
  exact Dps.take _ h
theorem Dps.erase : ∀ {i : Nat} {ds : List PyData} {vs : List V}, DpAll K B vs ds → DpAll K B (vs.eraseIdx i) (ds.eraseIdx i)
  | _, [], _, h => by cases h; exact .nil
  | 0, _ :: _, _, h => by
    cases h with
    | cons h1 h2 => exact h2
  | i + 1, _ :: _, _, h => by
    cases h with
    | cons h1 h2 => exact .cons h1 (Dps.erase h2)
theorem Dps.set : ∀ {i : Nat} {ds : List PyData} {vs : List V} {v : V} {d : PyData}, DpAll K B vs ds → Dp K B v d → DpAll K B (vs.set i v) (ds.set i d)
  | _, [], _, _, _, h, _ => by cases h; exact .nil
  | 0, _ :: _, _, _, _, h, k => by
    cases h with
    | cons h1 h2 => exact .cons k h2
  | i + 1, _ :: _, _, _, _, h, k => by
    cases h with
    | cons h1 h2 => exact .cons h1 (Dps.set h2 k)
/-- the last of a list that isn't empty -/
theorem Dps.last {ds : List PyData} {vs : List V} {d : PyData} (h : DpAll K B vs (ds ++ [d])) : ∃ us v, vs = us ++ [v] ∧ DpAll K B us ds ∧ Dp K B v d := by
  have h1 := Dps.rev h
  rw [List.reverse_append, List.reverse_singleton] at h1
  cases e : vs.reverse with
  | nil => rw [e] at h1; cases h1
  | cons v r =>
    rw [e] at h1
    cases h1 with
    | cons a b =>
      have e2 : vs = r.reverse ++ [v] := by rw [← List.reverse_reverse vs, e, List.reverse_cons]
      refine ⟨r.reverse, v, e2, ?_, a⟩
      have b2 : DpAll K B r ds.reverse := b
      have := Dps.rev b2
      rwa [List.reverse_reverse] at this
theorem Dp.int_v {v : V} {i : Int} (h : Dp K B v (.int i)) : v = .int i := by cases h; rfl
theorem Dp.str_v {v : V} {i : Str} (h : Dp K B v (.str i)) : v = .str i := by cases h; rfl
theorem Dp.bool_v {v : V} {i : Bool} (h : Dp K B v (.bool i)) : v = .bl i := by cases h; rfl
theorem Dp.none_v {v : V} (h : Dp K B v .none) : v = .non := by cases h; rfl
theorem Dp.tup_v {v : V} {ds : List PyData} (h : Dp K B v (.tuple ds)) : ∃ a xs, v = .ref a ∧ SqT K B a xs ∧ DpAll K B xs ds := by
  cases h with
  | tup hs ha => exact ⟨_, _, rfl, hs, ha⟩
theorem Dp.lst_v {v : V} {ds : List PyData} (h : Dp K B v (.list ds)) : ∃ a xs, v = .ref a ∧ SqL K B a xs ∧ DpAll K B xs ds := by
  cases h with
  | lst hs ha => exact ⟨_, _, rfl, hs, ha⟩
/-- the type of data -/
def tyD : PyData → String
  | .none => "NoneType" | .bool _ => "bool" | .int _ => "int" | .str _ => "str" | .list _ => "list" | .tuple _ => "tuple" | .dict _ => "dict"
theorem Dp.ty {v : V} {d : PyData} (h : Dp K B v d) (e : Ex B H) : TyX K H v (.type (tyD d)) := by
  have g := Dp.up e h
  cases g with
  | non => exact .base .non
  | bl b => exact .base (.bl b)
  | int i => exact .base (.int i)
  | str x => exact .base (.str x)
  | lst hs ha =>
    rcases hs with (h1 | ⟨o, h1⟩) | ⟨o, its, n, h1, h2, _⟩
    · exact .base (.lst h1)
    · exact .base (.frz h1)
    · exact .kList h1 h2
  | tup hs ha =>
    rcases hs with (h1 | ⟨o, h1⟩) | ⟨o, its, n, h1, h2, _⟩
    · exact .base (.tup h1)
    · exact .fTuple h1
    · exact .kTuple h1 h2
end

/-! ### a step of the heap: B what is frozen, H all that is tracked; M may be changed -/
structure Nx (M : List Addr) (B H B' H' : Hp) : Prop where
  b : Ex B B'
  h : Ex B' H'
  k : ∀ a o, H a = some o → a ∉ M → H' a = some o
  f : ∀ a, B a = none → H a ≠ none → B' a = none
theorem Nx.refl {M : List Addr} {B H : Hp} (e : Ex B H) : Nx M B H B H := ⟨Ex.refl _, e, fun _ _ h _ => h, fun _ h _ => h⟩
theorem Nx.trans {M : List Addr} {B H B1 H1 B2 H2 : Hp} (m : Nx M B H B1 H1) (n : Nx M B1 H1 B2 H2) (hm : ∀ a ∈ M, H a ≠ none → H1 a ≠ none) : Nx M B H B2 H2 :=
  ⟨m.b.trans n.b, n.h, fun a o h q => n.k a o (m.k a o h q) q, fun a h q => n.f a (m.f a h q) (by
    by_cases z : a ∈ M
    · exact hm a z q
    · intro y
      cases e : H a with
      | none => exact q e
      | some o => rw [m.k a o e z] at y; cases y)⟩
theorem Nx.wk {M M' : List Addr} {B H B' H' : Hp} (n : Nx M B H B' H') (h : ∀ a ∈ M, a ∈ M') : Nx M' B H B' H' := ⟨n.b, n.h, fun a o e q => n.k a o e fun z => q (h a z), n.f⟩
theorem Nx.ex {B H B' H' : Hp} (n : Nx [] B H B' H') : Ex H H' := fun a o h => n.k a o h (by simp)
/-- pure steps -/
theorem Nx.tr {B H B1 H1 B2 H2 : Hp} (m : Nx [] B H B1 H1) (n : Nx [] B1 H1 B2 H2) : Nx [] B H B2 H2 := m.trans n fun a z => absurd z (by simp)
/-- a new object that is frozen -/
theorem Nx.new {M : List Addr} {B H : Hp} {p : Addr} {o : HO} (e : Ex B H) (h : H p = none) : Nx M B H (upd B p o) (upd H p o) :=
  ⟨Ex.new (e.free h), fun a u q => by
    by_cases z : a = p
    · subst z; rw [upd_same] at q ⊢; exact q
    · rw [upd_ne z] at q ⊢; exact e a u q, fun a u q _ => by rw [upd_ne (ne_of_none q h)]; exact q, fun a q r => by
    rw [upd_ne (fun z => r (by rw [z]; exact h))]
    exact q⟩
/-- a new object that may change -/
theorem Nx.own {M : List Addr} {B H : Hp} {p : Addr} {o : HO} (e : Ex B H) (h : H p = none) : Nx M B H B (upd H p o) :=
  ⟨Ex.refl _, e.trans (Ex.new h), fun a u q _ => by rw [upd_ne (ne_of_none q h)]; exact q, fun a q _ => q⟩
/-- a list that may change -/
structure Mu (B H : Hp) (l : Addr) (xs : List V) : Prop where
  b : B l = none
  h : H l = some (.lst xs)
theorem Mu.up {M : List Addr} {B H B' H' : Hp} {l : Addr} {xs : List V} (m : Mu B H l xs) (n : Nx M B H B' H') (h : l ∉ M := by simp) : Mu B' H' l xs := ⟨n.f l m.b (by rw [m.h]; exact fun z => nomatch z), n.k l _ m.h h⟩
theorem Mu.new {B H : Hp} {p : Addr} {xs : List V} (e : Ex B H) (h : H p = none) : Mu B (upd H p (.lst xs)) p xs := ⟨e.free h, upd_same⟩
theorem Mu.ne {B H : Hp} {l p : Addr} {xs : List V} (m : Mu B H l xs) (h : H p = none) : p ≠ l := fun z => by
  rw [z, m.h] at h
  cases h
theorem Mu.ne' {B H : Hp} {l p : Addr} {xs : List V} (m : Mu B H l xs) (h : H p = none) : l ≠ p := (m.ne h).symm
/-- .. is changed -/
theorem Mu.put {B H : Hp} {l : Addr} {xs ys : List V} (m : Mu B H l xs) (e : Ex B H) : Nx [l] B H B (upd H l (.lst ys)) :=
  ⟨Ex.refl _, e.mut m.b, fun a u q z => by rw [upd_ne (fun y => z (by rw [y]; simp))]; exact q, fun a q _ => q⟩
theorem Mu.set {B H : Hp} {l : Addr} {xs ys : List V} (m : Mu B H l xs) : Mu B (upd H l (.lst ys)) l ys := ⟨m.b, upd_same⟩
theorem Mu.off {B H : Hp} {l p : Addr} {xs ys : List V} (m : Mu B H l xs) (h : l ≠ p) : Mu B (upd H p (.lst ys)) l xs := ⟨m.b, by rw [upd_ne h]; exact m.h⟩
theorem Mu.sq {K : PySem.W.Frag} {B H : Hp} {l : Addr} {xs : List V} (m : Mu B H l xs) : SqL K H l xs := SqL.of m.h
/-- it is frozen from here on -/
theorem Mu.frz {M : List Addr} {B H : Hp} {l : Addr} {xs : List V} (m : Mu B H l xs) (e : Ex B H) : Ex B (upd B l (.lst xs)) ∧ Ex (upd B l (.lst xs)) H ∧ upd B l (.lst xs) l = some (.lst xs) :=
  ⟨Ex.new m.b, fun a u q => by
    by_cases z : a = l
    · subst z; rw [upd_same] at q; cases q; exact m.h
    · rw [upd_ne z] at q; exact e a u q, upd_same⟩

/-! ### short readings -/
section
variable {K : PySem.W.Frag} {σ : L2.St} {B H : Hp} {Q : VK} {R : Bool → Hp → Prop} {ta tb te tx : TE} {x y z v : V} {r : R2} {t u : TT}
theorem sx_var {i : Nat} (h : σ[i]? = some (some v)) (q : Q v H) : tVar i σ H Q := ⟨v, h, q⟩
theorem sx_c (q : Q v H) : tC v σ H Q := q
theorem sx_op (q : ta σ H fun x H1 => tb σ H1 fun y H2 => r x y H2 Q) : tOp r ta tb σ H Q := q
theorem sx_un {r : V → Hp → VK → Prop} (q : ta σ H fun x H1 => r x H1 Q) : tUn r ta σ H Q := q
theorem sx_I0 {g : Int → Int → V} {i j : Int} (q : Q (g i j) H) : rI0 g (.int i) (.int j) H Q := ⟨i, j, rfl, rfl, q⟩
theorem sx_I {C : Int → Int → Prop} {g : Int → Int → V} {i j : Int} (c : C i j) (q : Q (g i j) H) : rI C g (.int i) (.int j) H Q := ⟨i, j, rfl, rfl, c, q⟩
theorem sx_U {g : Int → V} {i : Int} (q : Q (g i) H) : rU g (.int i) H Q := ⟨i, rfl, q⟩
theorem sx_eq (h : scal x y = true) (q : Q (.bl (decide (x = y))) H) : rEq x y H Q := ⟨h, q⟩
theorem sx_ne (h : scal x y = true) (q : Q (.bl (!decide (x = y))) H) : rNe x y H Q := ⟨h, q⟩
theorem sx_isBV {b : Bool} (q : Q (.bl (decide (x = .bl b))) H) : rIsBV x (.bl b) H Q := ⟨b, rfl, q⟩
theorem sx_test (q : te σ H fun x H' => ∃ k, x = .bl k ∧ R k H') : tTest te σ H R := q
theorem sx_tB (q : te σ H fun x H' => ∃ k, x = .bl k ∧ R k H') : tB te σ H R := q
theorem sx_isB {b : Bool} {P : Bool → Prop} (q : P b) : ∃ c, V.bl b = .bl c ∧ P c := ⟨b, rfl, q⟩
theorem sx_bl {b : Bool} (q : R b H) : ∃ k, V.bl b = .bl k ∧ R k H := ⟨b, rfl, q⟩
theorem sx_not (q : t σ H fun c H1 => R (!c) H1) : tNot t σ H R := q
theorem sx_and (q : t σ H fun c H1 => if c = true then u σ H1 R else R false H1) : tAnd t u σ H R := q
theorem sx_or (q : t σ H fun c H1 => if c = true then R true H1 else u σ H1 R) : tOr t u σ H R := q
theorem sx_andV (q : ta σ H fun x H1 => ∃ c, x = .bl c ∧ if c = true then tb σ H1 Q else Q (.bl false) H1) : tAndV ta tb σ H Q := q
theorem sx_orV (q : ta σ H fun x H1 => ∃ c, x = .bl c ∧ if c = true then Q (.bl true) H1 else tb σ H1 Q) : tOrV ta tb σ H Q := q
theorem sx_notV (q : ta σ H fun x H1 => ∃ c, x = .bl c ∧ Q (.bl (!c)) H1) : tNotV ta σ H Q := q
theorem sx_bl2 {b : Bool} {P1 P2 : Prop} (q : if b = true then P1 else P2) : ∃ c, V.bl b = .bl c ∧ if c = true then P1 else P2 := ⟨b, rfl, q⟩
theorem sx_if (q : t σ H fun c H1 => if c = true then ta σ H1 Q else tb σ H1 Q) : tIf t ta tb σ H Q := q
theorem sx_nil {Q : List V → Hp → Prop} (q : Q [] H) : tNil σ H Q := q
theorem sx_cons {tr : TA} {Q : List V → Hp → Prop} (q : ta σ H fun x H1 => tr σ H1 fun xs H2 => Q (x :: xs) H2) : tCons ta tr σ H Q := q
theorem sx_cb {r : List V → Hp → VK → Prop} {t : TA} (q : t σ H fun vs H1 => r vs H1 Q) : tCB r t σ H Q := q
theorem sx_call {sp : Sp} {t : TA} {dvs : List V} {E : XK} (q : t σ H fun vs H1 => sp (vs ++ dvs) H1 Q E) : tCall sp dvs E t σ H Q := q
theorem sx_ixL {p : Addr} {xs : List V} {i : Int} (h : SqL K H p xs) (ha : atI xs i = some v) (q : Q v H) : rIxL K (.ref p) (.int i) H Q := ⟨p, xs, i, v, rfl, rfl, h, ha, q⟩
theorem sx_ixT {p : Addr} {xs : List V} {i : Int} (h : SqT K H p xs) (ha : atI xs i = some v) (q : Q v H) : rIxT K (.ref p) (.int i) H Q := ⟨p, xs, i, v, rfl, rfl, h, ha, q⟩
/-! statements -/
variable {D : Ends} {g : TG} {ts tu : TS}
theorem sx_seq (q : ts { D with nx := tu D } σ H) : tSeq ts tu D σ H := q
theorem sx_next (q : D.nx σ H) : tNext D σ H := q
theorem sx_asg (q : te σ H fun x H1 => g x σ H1 D.nx) : tAsg te g D σ H := q
theorem sx_gname {i : Nat} {Q : L2.St → Hp → Prop} (q : Q (σ.set i (some v)) H) : gName i v σ H Q := q
theorem sx_drop (q : te σ H fun _ H1 => D.nx σ H1) : tDrop te D σ H := q
theorem sx_ret (q : te σ H D.rt) : tRet te D σ H := q
theorem sx_retN (q : D.rt .non H) : tRetN D σ H := q
theorem sx_ifS (q : t σ H fun b H1 => if b = true then ts D σ H1 else tu D σ H1) : tIfS t ts tu D σ H := q
theorem sx_par {i j : Nat} {ta : TA} (q : ta σ H fun vs H1 => ∃ v w, vs = [v, w] ∧ D.nx ((σ.set i (some v)).set j (some w)) H1) : tPar i j ta D σ H := q
theorem sx_par2 {Q : V → V → Prop} (q : Q x y) : ∃ v w, [x, y] = [v, w] ∧ Q v w := ⟨x, y, rfl, q⟩
theorem sx_bm0 {T : String} {r : V → List V → Hp → VK → Prop} (q : te σ H fun x H1 => tyV K T x H1 ∧ r x [] H1 Q) : tBM0 K T r te σ H Q := q
theorem sx_bm {T : String} {r : V → List V → Hp → VK → Prop} {ta : TA} (q : te σ H fun x H1 => tyV K T x H1 ∧ ta σ H1 fun xs H2 => r x xs H2 Q) : tBM K T r te ta σ H Q := q
theorem sx_tyL {p : Addr} {xs : List V} {A : Prop} (h : SqL K H p xs) (q : A) : tyV K "list" (.ref p) H ∧ A := ⟨.inl ⟨rfl, _, h⟩, q⟩
theorem sx_gsub {to ti : TE} {t : TSet} {Q : L2.St → Hp → Prop} (q : to σ H fun o H1 => ti σ H1 fun i H2 => t o i v H2 fun H3 => Q σ H3) : gSub to ti t v σ H Q := q
theorem sx_GT {xs : List V} (q : ∀ a, (∀ H', SqT K H' a xs) → Q (.ref a) H) : tGT K xs σ H Q := q
/-- a display -/
def rNewT (xs : List V) (H : Hp) (Q : VK) : Prop := xs.length ≤ sizeLine ∧ ∀ p, H p = none → Q (.ref p) (upd H p (.tup xs))
def rNewL (xs : List V) (H : Hp) (Q : VK) : Prop := xs.length ≤ sizeLine ∧ ∀ p, H p = none → Q (.ref p) (upd H p (.lst xs))
theorem sx_tup {ta : TA} (q : ta σ H fun xs H1 => rNewT xs H1 Q) : tTup ta σ H Q := q
theorem sx_lst {ta : TA} (q : ta σ H fun xs H1 => rNewL xs H1 Q) : tLst ta σ H Q := q
theorem sz_of {n : Nat} (h : n ≤ 100000) : n ≤ sizeLine := Nat.le_trans h (by decide)
theorem sz_lt {n : Nat} (h : n < 100000) : n < sizeLine := Nat.lt_of_lt_of_le h (by decide)
/-- a new tuple of data -/
theorem sx_newT {xs : List V} {ds : List PyData} (e : Ex B H) (hd : DpAll K B xs ds) (hz : ds.length ≤ 100000) (q : ∀ p B' H', H p = none → Nx [] B H B' H' → Dp K B' (.ref p) (.tuple ds) → Q (.ref p) H') : rNewT xs H Q :=
  ⟨sz_of (by rw [Dps.len hd]; exact hz), fun p hp => q p (upd B p (.tup xs)) _ hp (Nx.new e hp) (.tup (SqT.of upd_same) (Dps.up (Ex.new (e.free hp)) hd))⟩
/-- a new list that may change -/
theorem sx_newM {xs : List V} (e : Ex B H) (hz : xs.length ≤ 100000) (q : ∀ p H', H p = none → Nx [] B H B H' → Mu B H' p xs → Q (.ref p) H') : rNewL xs H Q :=
  ⟨sz_of hz, fun p hp => q p _ hp (Nx.own e hp) (Mu.new e hp)⟩
/-- a new list of data that won't change -/
theorem sx_newL {xs : List V} {ds : List PyData} (e : Ex B H) (hd : DpAll K B xs ds) (hz : ds.length ≤ 100000) (q : ∀ p B' H', H p = none → Nx [] B H B' H' → Dp K B' (.ref p) (.list ds) → Q (.ref p) H') : rNewL xs H Q :=
  ⟨sz_of (by rw [Dps.len hd]; exact hz), fun p hp => q p (upd B p (.lst xs)) _ hp (Nx.new e hp) (.lst (SqL.of upd_same) (Dps.up (Ex.new (e.free hp)) hd))⟩
theorem sx_append {l : Addr} {xs : List V} (m : Mu B H l xs) (e : Ex B H) (hz : xs.length < 100000) (q : ∀ H', Nx [l] B H B H' → Mu B H' l (xs ++ [y]) → Q .non H') : rAppend (.ref l) [y] H Q :=
  ⟨l, xs, y, rfl, rfl, m.h, sz_lt hz, q _ (m.put e) m.set⟩
theorem sx_pop {l : Addr} {xs : List V} (m : Mu B H l (xs ++ [y])) (e : Ex B H) (q : ∀ H', Nx [l] B H B H' → Mu B H' l xs → Q y H') : rPop (.ref l) [] H Q := by
  refine ⟨l, xs ++ [y], y, rfl, rfl, m.h, by simp, ?_⟩
  have h := q (upd H l (.lst xs)) (m.put e) m.set
  rwa [List.dropLast_concat]
theorem sx_popAt {l : Addr} {xs : List V} {i : Nat} (m : Mu B H l xs) (e : Ex B H) (hi : xs[i]? = some y) (hz : xs.length ≤ 100000) (q : ∀ H', Nx [l] B H B H' → Mu B H' l (xs.eraseIdx i) → Q y H') : rPopAt (.ref l) [.int (i : Int)] H Q := by
  have h1 := (List.getElem?_eq_some_iff.mp hi).1
  refine ⟨l, xs, (i : Int), i, y, rfl, rfl, m.h, by omega, by omega, ?_, hi, q _ (m.put e) m.set⟩
  have h2 : ¬ ((i : Int) < 0) := by omega
  have h3 : (decide (0 ≤ (i : Int)) && decide ((i : Int) < (xs.length : Int))) = true := by
    rw [decide_eq_true (by omega : (0 : Int) ≤ (i : Int)), decide_eq_true (by omega : (i : Int) < (xs.length : Int))]; rfl
  simp only [seqIndex?, if_neg h2, h3, if_true, Int.toNat_natCast]
theorem sx_setL {l : Addr} {xs : List V} {j : Nat} {k : Int} {Q : Hp → Prop} (m : Mu B H l xs) (e : Ex B H) (hj : ixN xs.length k = some j) (q : ∀ H', Nx [l] B H B H' → Mu B H' l (xs.set j v) → Q H') : rSetL (.ref l) (.int k) v H Q :=
  ⟨l, xs, k, j, rfl, rfl, m.h, hj, q _ (m.put e) m.set⟩
/-- data -/
theorem sx_ixTd {ds : List PyData} {i : Int} {d : PyData} (h : Dp K B x (.tuple ds)) (e : Ex B H) (ha : atI ds i = some d) (q : ∀ v, Dp K B v d → Q v H) : rIxT K x (.int i) H Q := by
  obtain ⟨a, xs, rfl, hs, hd⟩ := Dp.tup_v h
  unfold atI at ha
  cases hj : ixN ds.length i with
  | none => rw [hj] at ha; cases ha
  | some j =>
    rw [hj] at ha
    obtain ⟨v, h1, h2⟩ := Dps.get hd (show ds[j]? = some d from ha)
    refine ⟨a, xs, i, v, rfl, rfl, e.t hs, ?_, q v h2⟩
    unfold atI
    rw [Dps.len hd, hj]
    exact h1
theorem sx_ixLd {ds : List PyData} {i : Int} {d : PyData} (h : Dp K B x (.list ds)) (e : Ex B H) (ha : atI ds i = some d) (q : ∀ v, Dp K B v d → Q v H) : rIxL K x (.int i) H Q := by
  obtain ⟨a, xs, rfl, hs, hd⟩ := Dp.lst_v h
  unfold atI at ha
  cases hj : ixN ds.length i with
  | none => rw [hj] at ha; cases ha
  | some j =>
    rw [hj] at ha
    obtain ⟨v, h1, h2⟩ := Dps.get hd (show ds[j]? = some d from ha)
    refine ⟨a, xs, i, v, rfl, rfl, e.l hs, ?_, q v h2⟩
    unfold atI
    rw [Dps.len hd, hj]
    exact h1
end

/-! ### built-ins, by name -/
section
variable {X : Cx} {K : PySem.W.Frag} {σ : L2.St} {B H : Hp} {Q : VK} {x y v : V}
def rLen (K : PySem.W.Frag) : List V → Hp → VK → Prop := fun xs H Q => ∃ p ys, xs = [.ref p] ∧ (SqL K H p ys ∨ SqT K H p ys) ∧ Q (.int ys.length) H
theorem cl_len : CallR X (.builtin "len") (rLen X.K) := call_len_seq
theorem sx_lenL {p : Addr} {ys : List V} (h : SqL K H p ys) (q : Q (.int ys.length) H) : rLen K [.ref p] H Q := ⟨p, ys, rfl, .inl h, q⟩
theorem sx_lenT {p : Addr} {ys : List V} (h : SqT K H p ys) (q : Q (.int ys.length) H) : rLen K [.ref p] H Q := ⟨p, ys, rfl, .inr h, q⟩
theorem sx_lenTd {ds : List PyData} (h : Dp K B x (.tuple ds)) (e : Ex B H) (q : Q (.int ds.length) H) : rLen K [x] H Q := by
  obtain ⟨a, xs, rfl, hs, hd⟩ := Dp.tup_v h
  exact ⟨a, xs, rfl, .inr (e.t hs), by rw [Dps.len hd]; exact q⟩
theorem sx_lenLd {ds : List PyData} (h : Dp K B x (.list ds)) (e : Ex B H) (q : Q (.int ds.length) H) : rLen K [x] H Q := by
  obtain ⟨a, xs, rfl, hs, hd⟩ := Dp.lst_v h
  exact ⟨a, xs, rfl, .inl (e.l hs), by rw [Dps.len hd]; exact q⟩
def rInt : List V → Hp → VK → Prop := fun xs H Q => (∃ i, xs = [.int i] ∧ Q (.int i) H) ∨ ∃ k, xs = [.bl k] ∧ Q (.int (if k then 1 else 0)) H
theorem cl_int : CallR X (.type "int") rInt := call_int1
theorem sx_int {i : Int} (q : Q (.int i) H) : rInt [.int i] H Q := .inl ⟨i, rfl, q⟩
def rAbs : List V → Hp → VK → Prop := fun xs H Q => ∃ i, xs = [.int i] ∧ Q (.int (if i < 0 then -i else i)) H
theorem cl_abs : CallR X (.builtin "abs") rAbs := call_abs
theorem sx_abs {i : Int} (q : Q (.int (if i < 0 then -i else i)) H) : rAbs [.int i] H Q := ⟨i, rfl, q⟩
def rMin : List V → Hp → VK → Prop := fun xs H Q => ∃ i j, xs = [.int i, .int j] ∧ Q (.int (if j < i then j else i)) H
theorem cl_min (hc : X.calm = true) : CallR X (.builtin "min") rMin := call_min2 hc
theorem sx_min {i j : Int} (q : Q (.int (if j < i then j else i)) H) : rMin [.int i, .int j] H Q := ⟨i, j, rfl, q⟩
def rMax : List V → Hp → VK → Prop := fun xs H Q => ∃ i j, xs = [.int i, .int j] ∧ Q (.int (if j > i then j else i)) H
theorem cl_max (hc : X.calm = true) : CallR X (.builtin "max") rMax := call_max2 hc
theorem sx_max {i j : Int} (q : Q (.int (if j > i then j else i)) H) : rMax [.int i, .int j] H Q := ⟨i, j, rfl, q⟩
def rListOf (K : PySem.W.Frag) : List V → Hp → VK → Prop := fun xs H Q => ∃ p ys, xs = [.ref p] ∧ (SqL K H p ys ∨ SqT K H p ys) ∧ ∀ l, H l = none → Q (.ref l) (upd H l (.lst ys))
theorem cl_list : CallR X (.type "list") (rListOf X.K) := call_list_of
theorem sx_listOf {p : Addr} {ys : List V} (e : Ex B H) (h : SqL K H p ys ∨ SqT K H p ys) (q : ∀ l H', H l = none → Nx [] B H B H' → Mu B H' l ys → Q (.ref l) H') : rListOf K [.ref p] H Q := ⟨p, ys, rfl, h, fun l hl => q l _ hl (Nx.own e hl) (Mu.new e hl)⟩
def rTupOf (K : PySem.W.Frag) : List V → Hp → VK → Prop := fun xs H Q => ∃ p ys, xs = [.ref p] ∧ ((SqL K H p ys ∧ ∀ l, H l = none → Q (.ref l) (upd H l (.tup ys))) ∨ (SqT K H p ys ∧ Q (.ref p) H))
theorem cl_tuple : CallR X (.type "tuple") (rTupOf X.K) := call_tuple_of
theorem sx_tupOfL {p : Addr} {ys : List V} {ds : List PyData} (e : Ex B H) (h : SqL K H p ys) (hd : DpAll K B ys ds) (q : ∀ l B' H', H l = none → Nx [] B H B' H' → Dp K B' (.ref l) (.tuple ds) → Q (.ref l) H') : rTupOf K [.ref p] H Q :=
  ⟨p, ys, rfl, .inl ⟨h, fun l hl => q l (upd B l (.tup ys)) _ hl (Nx.new e hl) (.tup (SqT.of upd_same) (Dps.up (Ex.new (e.free hl)) hd))⟩⟩
theorem sx_tupOfT {p : Addr} {ys : List V} (h : SqT K H p ys) (q : Q (.ref p) H) : rTupOf K [.ref p] H Q := ⟨p, ys, rfl, .inr ⟨h, q⟩⟩
/-- isinstance of data by one class -/
theorem sx_isi {d : PyData} {n : String} {b : Bool} (h : Dp K B x d) (e : Ex B H) (k : kitB (tyD d) n = some b) (q : Q (.bl b) H) : rIsi K [x, .ty n] H Q := ⟨x, .ty n, .type (tyD d), .type n, b, rfl, .ty n, Dp.ty h e, kit_ty k, q⟩
def rAddS : R2 := fun x y H Q => ∃ i j, x = .str i ∧ y = .str j ∧ i.length + j.length ≤ sizeLine ∧ Q (.str (i ++ j)) H
theorem op_addS : OpR X (binaryOp .Add) rAddS := op_add_str
theorem sx_addS {i j : Str} (h : i.length + j.length ≤ 100000) (q : Q (.str (i ++ j)) H) : rAddS (.str i) (.str j) H Q := ⟨i, j, rfl, rfl, sz_of h, q⟩
def rIsN : R2 := fun x y H Q => y = .non ∧ Q (.bl (decide (x = .non))) H
def rNotN : R2 := fun x y H Q => y = .non ∧ Q (.bl (!decide (x = .non))) H
theorem op_isN1 : OpR X (compareOp .Is) G.rIsN := op_isN
theorem op_notN1 : OpR X (compareOp .IsNot) G.rNotN := op_notN
theorem sx_isN (q : Q (.bl (decide (x = .non))) H) : G.rIsN x .non H Q := ⟨rfl, q⟩
theorem sx_notN (q : Q (.bl (!decide (x = .non))) H) : G.rNotN x .non H Q := ⟨rfl, q⟩
end

/-! ### a cut -/
section
variable {X : Cx}
def tCut (t u : TS) : TS := fun D σ H => ∃ Mid : L2.St → Hp → Prop, t { D with nx := Mid } σ H ∧ ∀ σ' H', Mid σ' H' → u D σ' H'
theorem pss_cut {st : Stmt} {rest : List Stmt} {t u : TS} (h1 : PS X st t) (h2 : PSs X rest u) : PSs X (st :: rest) (tCut t u) := by
  refine ⟨fun pins s σ H D I h => ?_⟩
  obtain ⟨Mid, hm, hu⟩ := h
  refine wpAny_execs_cons (thn (h1.run pins s σ H { D with nx := Mid } I hm) fun f s1 q => ?_)
  cases f with
  | next =>
    obtain ⟨σ', H', I', q⟩ := q
    exact h2.run pins s1 σ' H' D I' (hu σ' H' q)
  | ret v => exact q
  | brk => exact q
  | cont => exact q
theorem sx_cut {t u : TS} {D : Ends} {σ : L2.St} {H : Hp} (Mid : L2.St → Hp → Prop) (h : t { D with nx := Mid } σ H) (k : ∀ σ' H', Mid σ' H' → u D σ' H') : tCut t u D σ H := ⟨Mid, h, k⟩
end
/-! ### tests -/
theorem ifT {A B : Prop} {b : Bool} (e : b = true) (h : A) : if b = true then A else B := by rw [if_pos e]; exact h
theorem ifF {A B : Prop} {b : Bool} (e : b = false) (h : B) : if b = true then A else B := by rw [if_neg (by rw [e]; exact Bool.false_ne_true)]; exact h
theorem dT {p : Prop} [Decidable p] (h : p) : decide p = true := decide_eq_true h
theorem dF {p : Prop} [Decidable p] (h : ¬ p) : decide p = false := decide_eq_false h
theorem int_eqT {i j : Int} (h : i = j) : decide (V.int i = V.int j) = true := decide_eq_true (by rw [h])
theorem int_eqF {i j : Int} (h : i ≠ j) : decide (V.int i = V.int j) = false := decide_eq_false fun z => h (V.int.inj z)
theorem str_eqT {i j : Str} (h : i = j) : decide (V.str i = V.str j) = true := decide_eq_true (by rw [h])
theorem str_eqF {i j : Str} (h : i ≠ j) : decide (V.str i = V.str j) = false := decide_eq_false fun z => h (V.str.inj z)
theorem snoc_of {α : Type} {xs : List α} (h : xs ≠ []) : ∃ r z, xs = r ++ [z] := ⟨xs.dropLast, xs.getLast h, (List.dropLast_concat_getLast h).symm⟩
theorem atI_end {α : Type} {r : List α} {z : α} : atI (r ++ [z]) (-1) = some z := atI_last _ _
section
variable {H : Hp} {Q : VK} {i j : Int}
theorem sx_mod (h : 0 < j) (q : Q (.int (i % j)) H) : rI (fun _ j => 0 < j) (fun i j => .int (i % j)) (.int i) (.int j) H Q := ⟨i, j, rfl, rfl, h, q⟩
theorem sx_div (h : 0 < j) (h1 : j < 1073741824) (q : Q (.int (i / j)) H) : rI CDiv (fun i j => .int (i / j)) (.int i) (.int j) H Q := ⟨i, j, rfl, rfl, ⟨h, h1⟩, q⟩
/-- a product of numbers below 2 ^ 64 -/
theorem sx_mul64 (h : -(2 ^ 64) < i ∧ i < 2 ^ 64) (h1 : -(2 ^ 64) < j ∧ j < 2 ^ 64) (q : Q (.int (i * j)) H) : rI CMulW (fun i j => .int (i * j)) (.int i) (.int j) H Q :=
  ⟨i, j, rfl, rfl, wide_mul (a := 65) (b := 65) (by have : (2 : Nat) ^ 65 = 2 * 2 ^ 64 := by decide
                                                    omega) (by omega) (by decide) (by decide) (by decide), q⟩
theorem sx_mulW {a b : Nat} (ha : i.natAbs < 2 ^ a) (hb : j.natAbs < 2 ^ b) (h0 : 0 < a) (h1 : 0 < b) (h : a + b ≤ 1000000) (q : Q (.int (i * j)) H) : rI CMulW (fun i j => .int (i * j)) (.int i) (.int j) H Q := ⟨i, j, rfl, rfl, wide_mul ha hb h0 h1 h, q⟩
theorem sx_pow (h0 : 0 ≤ j) (h1 : j ≤ 1000000) (h2 : i.natAbs < 2 ^ 64) (q : Q (.int (i ^ j.toNat)) H) : rI CPow (fun i j => .int (i ^ j.toNat)) (.int i) (.int j) H Q := ⟨i, j, rfl, rfl, ⟨h0, h1, h2⟩, q⟩
end

/-! ### loops and comprehensions -/
section
variable {K : PySem.W.Frag} {σ : L2.St} {B H : Hp} {Q : VK} {tl te : TE} {g : TG} {tt : TT} {tb : TS} {vs : List Nat} {D : Ends} {ta : TA} {x : V}
/-- a comprehension over what the value x is (a list) -/
def rLcL (K : PySem.W.Frag) (g : TG) (tt : TT) (te : TE) (vs : List Nat) (σ : L2.St) (x : V) (H : Hp) (Q : VK) : Prop := ∃ a, x = .ref a ∧ (∃ xs, SqL K H a xs) ∧ ∀ D, H D = none → ∃ W : Nat → Nat → Hp → Prop, (∃ m, W 0 m (upd H D (.lst []))) ∧ ∀ i m H, W i m H →
  ((Itl K a).stop i H ∧ Q (.ref D) H) ∨ ((Itl K a).go i H ∧ ∃ Nx : Hp → Prop, (∀ H', Nx H' → ∃ m', m' < m ∧ W (i + 1) m' H') ∧ ∀ x H', (Itl K a).yld i H x H' → g x (wipe σ vs) H' fun σ2 H2 => wipe σ2 vs = wipe σ vs ∧ tt σ2 H2 fun b H3 =>
    if b = true then te σ2 H3 fun y H4 => ∃ acc, H4 D = some (.lst acc) ∧ acc.length < sizeLine ∧ Nx (upd H4 D (.lst (acc ++ [y]))) else Nx H3)
theorem sx_lcL (q : tl σ H fun x H1 => rLcL K g tt te vs σ x H1 Q) : tLc (iList K tl) g tt te vs σ H Q := q
def rLcT (K : PySem.W.Frag) (g : TG) (tt : TT) (te : TE) (vs : List Nat) (σ : L2.St) (x : V) (H : Hp) (Q : VK) : Prop := ∃ a, x = .ref a ∧ (∃ xs, SqT K H a xs) ∧ ∀ D, H D = none → ∃ W : Nat → Nat → Hp → Prop, (∃ m, W 0 m (upd H D (.lst []))) ∧ ∀ i m H, W i m H →
  ((Itt K a).stop i H ∧ Q (.ref D) H) ∨ ((Itt K a).go i H ∧ ∃ Nx : Hp → Prop, (∀ H', Nx H' → ∃ m', m' < m ∧ W (i + 1) m' H') ∧ ∀ x H', (Itt K a).yld i H x H' → g x (wipe σ vs) H' fun σ2 H2 => wipe σ2 vs = wipe σ vs ∧ tt σ2 H2 fun b H3 =>
    if b = true then te σ2 H3 fun y H4 => ∃ acc, H4 D = some (.lst acc) ∧ acc.length < sizeLine ∧ Nx (upd H4 D (.lst (acc ++ [y]))) else Nx H3)
theorem sx_lcT (q : tl σ H fun x H1 => rLcT K g tt te vs σ x H1 Q) : tLc (iTup K tl) g tt te vs σ H Q := q
def rLcR (g : TG) (tt : TT) (te : TE) (vs : List Nat) (σ : L2.St) (us : List V) (H : Hp) (Q : VK) : Prop := ∃ j : Int, us = [.int j] ∧ -(2 ^ 62) ≤ j ∧ j < 2 ^ 62 ∧ ∀ D, H D = none → ∃ W : Nat → Nat → Hp → Prop, (∃ m, W 0 m (upd H D (.lst []))) ∧ ∀ i m H, W i m H →
  ((Itr 0 j.toNat).stop i H ∧ Q (.ref D) H) ∨ ((Itr 0 j.toNat).go i H ∧ ∃ Nx : Hp → Prop, (∀ H', Nx H' → ∃ m', m' < m ∧ W (i + 1) m' H') ∧ ∀ x H', (Itr 0 j.toNat).yld i H x H' → g x (wipe σ vs) H' fun σ2 H2 => wipe σ2 vs = wipe σ vs ∧ tt σ2 H2 fun b H3 =>
    if b = true then te σ2 H3 fun y H4 => ∃ acc, H4 D = some (.lst acc) ∧ acc.length < sizeLine ∧ Nx (upd H4 D (.lst (acc ++ [y]))) else Nx H3)
theorem sx_lcR (q : ta σ H fun us H1 => rLcR g tt te vs σ us H1 Q) : tLc (iRng1 ta) g tt te vs σ H Q := q
/-- the list grows -/
theorem sx_lcEnd {L : Addr} {acc : List V} {y : V} {P : Hp → Prop} (m : Mu B H L acc) (e : Ex B H) (hz : acc.length < 100000) (q : ∀ H', Nx [L] B H B H' → Mu B H' L (acc ++ [y]) → P H') : ∃ acc, H L = some (.lst acc) ∧ acc.length < sizeLine ∧ P (upd H L (.lst (acc ++ [y]))) :=
  ⟨acc, m.h, sz_lt hz, q _ (m.put e) m.set⟩
/-- one that makes values of values -/
theorem sx_lcPure {a : Addr} {xs : List V} {j : Nat} (f : V → Bool) (h : V → V) (e : Ex B H) (hx : SqL K H a xs) (hz : xs.length ≤ 100000) (hw : ∀ x, wipe ((wipe σ vs).set j (some x)) vs = wipe σ vs)
    (ht : ∀ x ∈ xs, ∀ H1 (R : Bool → Hp → Prop), Ex H H1 → R (f x) H1 → tt ((wipe σ vs).set j (some x)) H1 R)
    (he : ∀ x ∈ xs, f x = true → ∀ H1 (R : VK), Ex H H1 → R (h x) H1 → te ((wipe σ vs).set j (some x)) H1 R)
    (q : ∀ p H', H p = none → Nx [] B H B H' → Mu B H' p ((xs.filter f).map h) → Q (.ref p) H') : rLcL K (gName j) tt te vs σ (.ref a) H Q := by
  refine ⟨a, rfl, ⟨xs, hx⟩, fun L hL => lc_list (xs := xs) (fun i H' => Nx [] B H B H' ∧ Mu B H' L (((xs.take i).filter f).map h)) ⟨Nx.own e hL, by simpa using Mu.new e hL⟩ (fun i H' _ p => p.1.ex.l hx) (fun i x H' hi p => ?_) (fun H' p => q L H' hL p.1 (by simpa using p.2))⟩
  have hm : x ∈ xs := List.mem_of_getElem? hi
  have hlen : (((xs.take i).filter f).map h).length ≤ 100000 := by
    rw [List.length_map]
    exact Nat.le_trans (List.length_filter_le _ _) (Nat.le_trans (by rw [List.length_take]; exact Nat.min_le_right _ _) hz)
  have hi' := (List.getElem?_eq_some_iff.mp hi).1
  have hlen2 : (((xs.take i).filter f).map h).length < 100000 := by
    rw [List.length_map]
    exact Nat.lt_of_le_of_lt (List.length_filter_le _ _) (by rw [List.length_take]; omega)
  show wipe ((wipe σ vs).set j (some x)) vs = wipe σ vs ∧ _
  refine ⟨hw x, ?_⟩
  refine ht x hm H' _ p.1.ex ?_
  have htake : xs.take (i + 1) = xs.take i ++ [x] := by rw [List.take_add_one, hi]; rfl
  cases hf : f x with
  | true =>
    refine iteT ?_
    refine he x hm hf H' _ p.1.ex ?_
    have n2 := p.2.put (ys := ((xs.take i).filter f).map h ++ [h x]) p.1.h
    have m2 := p.2.set (ys := ((xs.take i).filter f).map h ++ [h x])
    refine ⟨_, p.2.h, sz_lt hlen2, ?_, ?_⟩
    · exact ⟨Ex.refl _, n2.h, fun b o hb _ => by
        by_cases z : b = L
        · subst z; rw [hL] at hb; cases hb
        · exact n2.k b o (p.1.k b o hb (by simp)) (by simp [z]), fun b hb _ => hb⟩
    · rw [htake, List.filter_append, List.filter_cons, if_pos hf, List.map_append]
      exact m2
  | false =>
    refine iteF ⟨p.1, ?_⟩
    rw [htake, List.filter_append, List.filter_cons, if_neg (by rw [hf]; exact Bool.false_ne_true), List.filter_nil, List.append_nil]
    exact p.2
/-- a for over what the value x is -/
def rForL (K : PySem.W.Frag) (g : TG) (tb : TS) (D : Ends) (σ : L2.St) (x : V) (H : Hp) : Prop := ∃ a, x = .ref a ∧ (∃ xs, SqL K H a xs) ∧ ∃ W : Nat → Nat → L2.St → Hp → Prop, (∃ m, W 0 m σ H) ∧ ∀ i m σ H, W i m σ H →
  ((Itl K a).stop i H ∧ D.nx σ H) ∨ ((Itl K a).go i H ∧ ∃ N : L2.St → Hp → Prop, (∀ σ' H', N σ' H' → ∃ m', m' < m ∧ W (i + 1) m' σ' H') ∧ ∀ x H', (Itl K a).yld i H x H' → g x σ H' fun σ2 H2 => tb { D with nx := N, ct := N, bk := D.nx } σ2 H2)
theorem sx_forL (q : tl σ H fun x H1 => rForL K g tb D σ x H1) : tFor (iList K tl) g tb D σ H := q
def rForT (K : PySem.W.Frag) (g : TG) (tb : TS) (D : Ends) (σ : L2.St) (x : V) (H : Hp) : Prop := ∃ a, x = .ref a ∧ (∃ xs, SqT K H a xs) ∧ ∃ W : Nat → Nat → L2.St → Hp → Prop, (∃ m, W 0 m σ H) ∧ ∀ i m σ H, W i m σ H →
  ((Itt K a).stop i H ∧ D.nx σ H) ∨ ((Itt K a).go i H ∧ ∃ N : L2.St → Hp → Prop, (∀ σ' H', N σ' H' → ∃ m', m' < m ∧ W (i + 1) m' σ' H') ∧ ∀ x H', (Itt K a).yld i H x H' → g x σ H' fun σ2 H2 => tb { D with nx := N, ct := N, bk := D.nx } σ2 H2)
theorem sx_forT (q : tl σ H fun x H1 => rForT K g tb D σ x H1) : tFor (iTup K tl) g tb D σ H := q
def rForR (g : TG) (tb : TS) (D : Ends) (σ : L2.St) (us : List V) (H : Hp) : Prop := ∃ j : Int, us = [.int j] ∧ -(2 ^ 62) ≤ j ∧ j < 2 ^ 62 ∧ ∃ W : Nat → Nat → L2.St → Hp → Prop, (∃ m, W 0 m σ H) ∧ ∀ i m σ H, W i m σ H →
  ((Itr 0 j.toNat).stop i H ∧ D.nx σ H) ∨ ((Itr 0 j.toNat).go i H ∧ ∃ N : L2.St → Hp → Prop, (∀ σ' H', N σ' H' → ∃ m', m' < m ∧ W (i + 1) m' σ' H') ∧ ∀ x H', (Itr 0 j.toNat).yld i H x H' → g x σ H' fun σ2 H2 => tb { D with nx := N, ct := N, bk := D.nx } σ2 H2)
theorem sx_forR (q : ta σ H fun us H1 => rForR g tb D σ us H1) : tFor (iRng1 ta) g tb D σ H := q
def rForR2 (g : TG) (tb : TS) (D : Ends) (σ : L2.St) (us : List V) (H : Hp) : Prop := ∃ i j : Int, us = [.int i, .int j] ∧ (-(2 ^ 62) ≤ i ∧ i < 2 ^ 62 ∧ -(2 ^ 62) ≤ j ∧ j < 2 ^ 62) ∧ ∃ W : Nat → Nat → L2.St → Hp → Prop, (∃ m, W 0 m σ H) ∧ ∀ n m σ H, W n m σ H →
  ((Itr i (j - i).toNat).stop n H ∧ D.nx σ H) ∨ ((Itr i (j - i).toNat).go n H ∧ ∃ N : L2.St → Hp → Prop, (∀ σ' H', N σ' H' → ∃ m', m' < m ∧ W (n + 1) m' σ' H') ∧ ∀ x H', (Itr i (j - i).toNat).yld n H x H' → g x σ H' fun σ2 H2 => tb { D with nx := N, ct := N, bk := D.nx } σ2 H2)
theorem sx_forR2 (q : ta σ H fun us H1 => rForR2 g tb D σ us H1) : tFor (iRng2 ta) g tb D σ H := q
/-- by an invariant -/
theorem sx_forL_by {a : Addr} {xs : List V} (hx : SqL K H a xs) (Pv : Nat → L2.St → Hp → Prop) (h0 : Pv 0 σ H) (hl : ∀ i σ H, i ≤ xs.length → Pv i σ H → SqL K H a xs)
    (hs : ∀ i x σ H, xs[i]? = some x → Pv i σ H → g x σ H fun σ2 H2 => tb { D with nx := Pv (i + 1), ct := Pv (i + 1), bk := D.nx } σ2 H2) (hd : ∀ σ H, Pv xs.length σ H → D.nx σ H) : rForL K g tb D σ (.ref a) H :=
  ⟨a, rfl, ⟨xs, hx⟩, for_list (xs := xs) Pv h0 hl hs hd⟩
theorem sx_forT_by {a : Addr} {xs : List V} (hx : SqT K H a xs) (Pv : Nat → L2.St → Hp → Prop) (h0 : Pv 0 σ H) (hl : ∀ i σ H, i ≤ xs.length → Pv i σ H → SqT K H a xs)
    (hs : ∀ i x σ H, xs[i]? = some x → Pv i σ H → g x σ H fun σ2 H2 => tb { D with nx := Pv (i + 1), ct := Pv (i + 1), bk := D.nx } σ2 H2) (hd : ∀ σ H, Pv xs.length σ H → D.nx σ H) : rForT K g tb D σ (.ref a) H :=
  ⟨a, rfl, ⟨xs, hx⟩, for_tup (xs := xs) Pv h0 hl hs hd⟩
theorem sx_forR_by {n : Nat} (hn : n ≤ 1000000) (Pv : Nat → L2.St → Hp → Prop) (h0 : Pv 0 σ H)
    (hs : ∀ i σ H, i < n → Pv i σ H → g (.int (i : Int)) σ H fun σ2 H2 => tb { D with nx := Pv (i + 1), ct := Pv (i + 1), bk := D.nx } σ2 H2) (hd : ∀ σ H, Pv n σ H → D.nx σ H) : rForR g tb D σ [.int (n : Int)] H :=
  ⟨(n : Int), rfl, by omega, by omega, for_range (lo := 0) (n := (n : Int).toNat) Pv h0 (fun i σ H hi p => by rw [Int.zero_add]; exact hs i σ H (by simpa using hi) p) (fun σ H p => hd σ H (by simpa using p))⟩
theorem sx_forR2_by {lo n : Nat} (hl : lo ≤ 1000000) (hn : n ≤ 1000000) (Pv : Nat → L2.St → Hp → Prop) (h0 : Pv 0 σ H)
    (hs : ∀ i σ H, lo + i < n → Pv i σ H → g (.int ((lo + i : Nat) : Int)) σ H fun σ2 H2 => tb { D with nx := Pv (i + 1), ct := Pv (i + 1), bk := D.nx } σ2 H2) (hd : ∀ σ H, Pv (n - lo) σ H → D.nx σ H) : rForR2 g tb D σ [.int (lo : Int), .int (n : Int)] H :=
  ⟨(lo : Int), (n : Int), rfl, by omega, for_range (lo := (lo : Int)) (n := ((n : Int) - (lo : Int)).toNat) Pv h0 (fun i σ H hi p => by rw [← Int.natCast_add]; exact hs i σ H (by omega) p) (fun σ H p => hd σ H (by rw [show n - lo = ((n : Int) - (lo : Int)).toNat by omega]; exact p))⟩
theorem sx_lcR_by {n : Nat} (hn : n ≤ 100000) (Pv : Addr → Nat → Hp → Prop) (h0 : ∀ L, H L = none → Pv L 0 (upd H L (.lst [])))
    (hs : ∀ L i H, i < n → Pv L i H → g (.int (i : Int)) (wipe σ vs) H fun σ2 H2 => wipe σ2 vs = wipe σ vs ∧ tt σ2 H2 fun b H3 =>
      if b = true then te σ2 H3 fun y H4 => ∃ acc, H4 L = some (.lst acc) ∧ acc.length < sizeLine ∧ Pv L (i + 1) (upd H4 L (.lst (acc ++ [y]))) else Pv L (i + 1) H3) (hd : ∀ L H, Pv L n H → Q (.ref L) H) : rLcR g tt te vs σ [.int (n : Int)] H Q :=
  ⟨(n : Int), rfl, by omega, by omega, fun L hL => lc_range (lo := 0) (n := (n : Int).toNat) (Pv L) (h0 L hL) (fun i H hi p => by rw [Int.zero_add]; exact hs L i H (by simpa using hi) p) (fun H p => hd L H (by simpa using p))⟩
theorem sx_lcL_by {a : Addr} {xs : List V} (hx : SqL K H a xs) (Pv : Addr → Nat → Hp → Prop) (h0 : ∀ L, H L = none → Pv L 0 (upd H L (.lst []))) (hl : ∀ L i H, i ≤ xs.length → Pv L i H → SqL K H a xs)
    (hs : ∀ L i x H, xs[i]? = some x → Pv L i H → g x (wipe σ vs) H fun σ2 H2 => wipe σ2 vs = wipe σ vs ∧ tt σ2 H2 fun b H3 =>
      if b = true then te σ2 H3 fun y H4 => ∃ acc, H4 L = some (.lst acc) ∧ acc.length < sizeLine ∧ Pv L (i + 1) (upd H4 L (.lst (acc ++ [y]))) else Pv L (i + 1) H3) (hd : ∀ L H, Pv L xs.length H → Q (.ref L) H) : rLcL K g tt te vs σ (.ref a) H Q :=
  ⟨a, rfl, ⟨xs, hx⟩, fun L hL => lc_list (xs := xs) (Pv L) (h0 L hL) (hl L) (hs L) (hd L)⟩
theorem sx_lcT_by {a : Addr} {xs : List V} (hx : SqT K H a xs) (Pv : Addr → Nat → Hp → Prop) (h0 : ∀ L, H L = none → Pv L 0 (upd H L (.lst []))) (hl : ∀ L i H, i ≤ xs.length → Pv L i H → SqT K H a xs)
    (hs : ∀ L i x H, xs[i]? = some x → Pv L i H → g x (wipe σ vs) H fun σ2 H2 => wipe σ2 vs = wipe σ vs ∧ tt σ2 H2 fun b H3 =>
      if b = true then te σ2 H3 fun y H4 => ∃ acc, H4 L = some (.lst acc) ∧ acc.length < sizeLine ∧ Pv L (i + 1) (upd H4 L (.lst (acc ++ [y]))) else Pv L (i + 1) H3) (hd : ∀ L H, Pv L xs.length H → Q (.ref L) H) : rLcT K g tt te vs σ (.ref a) H Q :=
  ⟨a, rfl, ⟨xs, hx⟩, fun L hL => lc_tup (xs := xs) (Pv L) (h0 L hL) (hl L) (hs L) (hd L)⟩
/-- slices -/
theorem sx_sl {r : V → Option Int → Option Int → Hp → VK → Prop} {tlo thi : TO} (q : te σ H fun x H1 => tlo σ H1 fun l H2 => thi σ H2 fun u H3 => r x l u H3 Q) : tSl r te tlo thi σ H Q := q
theorem sx_noPart {Q : Option Int → Hp → Prop} (q : Q none H) : tNoPart σ H Q := q
theorem sx_part {Q : Option Int → Hp → Prop} (q : te σ H fun x H1 => ∃ i, x = .int i ∧ Q (some i) H1) : tPart te σ H Q := q
theorem sx_isI {i : Int} {P : Int → Prop} (q : P i) : ∃ j, V.int i = .int j ∧ P j := ⟨i, rfl, q⟩
theorem sx_slL {a : Addr} {xs : List V} {lo hi : Option Int} (e : Ex B H) (hx : SqL K H a xs) (q : ∀ p H', H p = none → Nx [] B H B H' → Mu B H' p (cutV xs lo hi) → Q (.ref p) H') : rSlL K (.ref a) lo hi H Q := ⟨a, xs, rfl, hx, fun p hp => q p _ hp (Nx.own e hp) (Mu.new e hp)⟩
def rRevL (K : PySem.W.Frag) : V → Hp → VK → Prop := fun x H1 Q => ∃ a xs, x = .ref a ∧ SqL K H1 a xs ∧ ∀ p, H1 p = none → Q (.ref p) (upd H1 p (.lst xs.reverse))
theorem sx_revL (q : te σ H fun x H1 => rRevL K x H1 Q) : tRevL K te σ H Q := q
theorem sx_revL2 {a : Addr} {xs : List V} (e : Ex B H) (hx : SqL K H a xs) (q : ∀ p H', H p = none → Nx [] B H B H' → Mu B H' p xs.reverse → Q (.ref p) H') : rRevL K (.ref a) H Q := ⟨a, xs, rfl, hx, fun p hp => q p _ hp (Nx.own e hp) (Mu.new e hp)⟩
theorem cut_to (xs : List V) (n : Nat) : cutV xs none (some (n : Int)) = xs.take n := by
  unfold cutV
  rw [HT.sIx_none, HT.sIx_nat, List.drop_zero, Nat.sub_zero, List.take_eq_take_iff]
  simp
end

theorem Nx.sq {K : PySem.W.Frag} {M : List Addr} {B H B' H' : Hp} {a : Addr} {xs : List V} (n : Nx M B H B' H') (h : SqL K H a xs) (ha : a ∉ M) : SqL K H' a xs := by
  rcases h with (h | ⟨o, h⟩) | h
  · exact .inl (.inl (n.k a _ h ha))
  · exact .inl (.inr ⟨o, n.k a _ h ha⟩)
  · exact .inr h
/-! data without lists -/
mutual
def flatD : PyData → Bool
  | .list _ => false
  | .dict _ => false
  | .tuple ds => flatDs ds
  | _ => true
def flatDs : List PyData → Bool
  | [] => true
  | d :: ds => flatD d && flatDs ds
end
theorem flatDs_get {ds : List PyData} {i : Nat} {d : PyData} (h : flatDs ds = true) (e : ds[i]? = some d) : flatD d = true := by
  induction ds generalizing i with
  | nil => simp at e
  | cons x r ih =>
    unfold flatDs at h
    rw [Bool.and_eq_true] at h
    cases i with
    | zero =>
      have e' : x = d := Option.some.inj e
      rw [← e']
      exact h.1
    | succ i => exact ih h.2 e
/-! how many parts -/
mutual
def szD : PyData → Nat
  | .tuple ds => szDs ds + 1
  | _ => 1
def szDs : List PyData → Nat
  | [] => 0
  | d :: ds => szD d + szDs ds
end
def isInt : PyData → Bool
  | .int _ => true
  | .bool _ => true
  | _ => false
theorem kit_int (d : PyData) : kitB (tyD d) "int" = some (isInt d) := by
  cases d with
  | none => exact (by decide +kernel : kitB "NoneType" "int" = some false)
  | bool b => exact (by decide +kernel : kitB "bool" "int" = some true)
  | int i => exact (by decide +kernel : kitB "int" "int" = some true)
  | str z => exact (by decide +kernel : kitB "str" "int" = some false)
  | list ds => exact (by decide +kernel : kitB "list" "int" = some false)
  | tuple ds => exact (by decide +kernel : kitB "tuple" "int" = some false)
  | dict ds => exact (by decide +kernel : kitB "dict" "int" = some false)
theorem sx_isInt {K : PySem.W.Frag} {B H : Hp} {Q : VK} {x : V} {d : PyData} (h : Dp K B x d) (e : Ex B H) (q : Q (.bl (isInt d)) H) : rIsi K [x, .ty "int"] H Q := sx_isi h e (kit_int d) q
def isBool : PyData → Bool
  | .bool _ => true
  | _ => false
theorem kit_bool (d : PyData) : kitB (tyD d) "bool" = some (isBool d) := by
  cases d with
  | none => exact (by decide +kernel : kitB "NoneType" "bool" = some false)
  | bool b => exact (by decide +kernel : kitB "bool" "bool" = some true)
  | int i => exact (by decide +kernel : kitB "int" "bool" = some false)
  | str z => exact (by decide +kernel : kitB "str" "bool" = some false)
  | list ds => exact (by decide +kernel : kitB "list" "bool" = some false)
  | tuple ds => exact (by decide +kernel : kitB "tuple" "bool" = some false)
  | dict ds => exact (by decide +kernel : kitB "dict" "bool" = some false)
theorem sx_isBool {K : PySem.W.Frag} {B H : Hp} {Q : VK} {x : V} {d : PyData} (h : Dp K B x d) (e : Ex B H) (q : Q (.bl (isBool d)) H) : rIsi K [x, .ty "bool"] H Q := sx_isi h e (kit_bool d) q
def isStr : PyData → Bool
  | .str _ => true
  | _ => false
theorem kit_str (d : PyData) : kitB (tyD d) "str" = some (isStr d) := by
  cases d with
  | none => exact (by decide +kernel : kitB "NoneType" "str" = some false)
  | bool b => exact (by decide +kernel : kitB "bool" "str" = some false)
  | int i => exact (by decide +kernel : kitB "int" "str" = some false)
  | str z => exact (by decide +kernel : kitB "str" "str" = some true)
  | list ds => exact (by decide +kernel : kitB "list" "str" = some false)
  | tuple ds => exact (by decide +kernel : kitB "tuple" "str" = some false)
  | dict ds => exact (by decide +kernel : kitB "dict" "str" = some false)
theorem sx_isStr {K : PySem.W.Frag} {B H : Hp} {Q : VK} {x : V} {d : PyData} (h : Dp K B x d) (e : Ex B H) (q : Q (.bl (isStr d)) H) : rIsi K [x, .ty "str"] H Q := sx_isi h e (kit_str d) q
def isTup : PyData → Bool
  | .tuple _ => true
  | _ => false
theorem kit_tuple (d : PyData) : kitB (tyD d) "tuple" = some (isTup d) := by
  cases d with
  | none => exact (by decide +kernel : kitB "NoneType" "tuple" = some false)
  | bool b => exact (by decide +kernel : kitB "bool" "tuple" = some false)
  | int i => exact (by decide +kernel : kitB "int" "tuple" = some false)
  | str z => exact (by decide +kernel : kitB "str" "tuple" = some false)
  | list ds => exact (by decide +kernel : kitB "list" "tuple" = some false)
  | tuple ds => exact (by decide +kernel : kitB "tuple" "tuple" = some true)
  | dict ds => exact (by decide +kernel : kitB "dict" "tuple" = some false)
theorem sx_isTup {K : PySem.W.Frag} {B H : Hp} {Q : VK} {x : V} {d : PyData} (h : Dp K B x d) (e : Ex B H) (q : Q (.bl (isTup d)) H) : rIsi K [x, .ty "tuple"] H Q := sx_isi h e (kit_tuple d) q
def isList : PyData → Bool
  | .list _ => true
  | _ => false
theorem kit_list (d : PyData) : kitB (tyD d) "list" = some (isList d) := by
  cases d with
  | none => exact (by decide +kernel : kitB "NoneType" "list" = some false)
  | bool b => exact (by decide +kernel : kitB "bool" "list" = some false)
  | int i => exact (by decide +kernel : kitB "int" "list" = some false)
  | str z => exact (by decide +kernel : kitB "str" "list" = some false)
  | list ds => exact (by decide +kernel : kitB "list" "list" = some true)
  | tuple ds => exact (by decide +kernel : kitB "tuple" "list" = some false)
  | dict ds => exact (by decide +kernel : kitB "dict" "list" = some false)
theorem sx_isList {K : PySem.W.Frag} {B H : Hp} {Q : VK} {x : V} {d : PyData} (h : Dp K B x d) (e : Ex B H) (q : Q (.bl (isList d)) H) : rIsi K [x, .ty "list"] H Q := sx_isi h e (kit_list d) q
def isDict : PyData → Bool
  | .dict _ => true
  | _ => false
theorem kit_dict (d : PyData) : kitB (tyD d) "dict" = some (isDict d) := by
  cases d with
  | none => exact (by decide +kernel : kitB "NoneType" "dict" = some false)
  | bool b => exact (by decide +kernel : kitB "bool" "dict" = some false)
  | int i => exact (by decide +kernel : kitB "int" "dict" = some false)
  | str z => exact (by decide +kernel : kitB "str" "dict" = some false)
  | list ds => exact (by decide +kernel : kitB "list" "dict" = some false)
  | tuple ds => exact (by decide +kernel : kitB "tuple" "dict" = some false)
  | dict ds => exact (by decide +kernel : kitB "dict" "dict" = some true)
theorem sx_isDict {K : PySem.W.Frag} {B H : Hp} {Q : VK} {x : V} {d : PyData} (h : Dp K B x d) (e : Ex B H) (q : Q (.bl (isDict d)) H) : rIsi K [x, .ty "dict"] H Q := sx_isi h e (kit_dict d) q

/-- what is one's own changes -/
theorem Nx.loc {M : List Addr} {B H B1 H1 B2 H2 : Hp} (n : Nx [] B H B1 H1) (m : Nx M B1 H1 B2 H2) (hM : ∀ a ∈ M, H a = none) : Nx [] B H B2 H2 :=
  ⟨n.b.trans m.b, m.h, fun a o h _ => m.k a o (n.k a o h (by simp)) (fun z => by rw [hM a z] at h; cases h), fun a h q => m.f a (n.f a h q) (by
    cases e : H a with
    | none => exact absurd e q
    | some o => rw [n.k a o e (by simp)]; exact fun z => nomatch z)⟩
theorem sx_gtup2 {K : PySem.W.Frag} {B H : Hp} {σ : L2.St} {v : V} {d1 d2 : PyData} {i j : Nat} {Q : L2.St → Hp → Prop} (h : Dp K B v (.tuple [d1, d2])) (e : Ex B H) (q : ∀ v1 v2, Dp K B v1 d1 → Dp K B v2 d2 → Q ((σ.set i (some v1)).set j (some v2)) H) :
    gTup K 2 (gCons (gName i) (gCons (gName j) gNil)) v σ H Q := by
  obtain ⟨a, xs, rfl, hs, hd⟩ := Dp.tup_v h
  cases hd with
  | cons h1 h2 =>
    cases h2 with
    | cons h2 h3 =>
      cases h3
      exact ⟨a, _, rfl, e.t hs, rfl, _, _, rfl, _, _, rfl, rfl, q _ _ h1 h2⟩
theorem szDs_app : ∀ (a b : List PyData), szDs (a ++ b) = szDs a + szDs b
  | [], b => by simp [szDs]
  | x :: r, b => by
    show szD x + szDs (r ++ b) = szD x + szDs r + szDs b
    rw [szDs_app r b]
    omega
theorem flatDs_app : ∀ (a b : List PyData), flatDs (a ++ b) = (flatDs a && flatDs b)
  | [], b => by simp [flatDs]
  | x :: r, b => by
    show (flatD x && flatDs (r ++ b)) = (flatD x && flatDs r && flatDs b)
    rw [flatDs_app r b, Bool.and_assoc]
theorem szD_pos (d : PyData) : 0 < szD d := by
  cases d <;> simp [szD]
theorem szDs_len : ∀ (a : List PyData), a.length ≤ szDs a
  | [] => Nat.zero_le _
  | x :: r => by
    have h1 := szDs_len r
    have h2 := szD_pos x
    show r.length + 1 ≤ szD x + szDs r
    omega
theorem szDs_take (a : List PyData) (n : Nat) : szDs (a.take n) ≤ szDs a := by
  have h := szDs_app (a.take n) (a.drop n)
  rw [List.take_append_drop] at h
  omega
theorem flatDs_take {a : List PyData} (h : flatDs a = true) (n : Nat) : flatDs (a.take n) = true := by
  have e := flatDs_app (a.take n) (a.drop n)
  rw [List.take_append_drop, h] at e
  exact (Bool.and_eq_true_iff.mp e.symm).1

/-- a new tuple, untold -/
theorem sx_newTp {B H : Hp} {Q : VK} {xs : List V} (e : Ex B H) (hz : xs.length ≤ 100000) (q : ∀ p H', H p = none → Nx [] B H B H' → H' p = some (.tup xs) → Q (.ref p) H') : rNewT xs H Q :=
  ⟨sz_of hz, fun p hp => q p _ hp (Nx.own e hp) upd_same⟩
theorem sx_isiT3 {K : PySem.W.Frag} {B H : Hp} {Q : VK} {x : V} {d : PyData} {p : Addr} (h : Dp K B x d) (e : Ex B H) (hp : H p = some (.tup [.ty "tuple", .ty "list", .ty "dict"])) (q : Q (.bl (isTup d || (isList d || isDict d))) H) : rIsiT K [x, .ref p] H Q :=
  ⟨x, p, _, .type (tyD d), [.type "tuple", .type "list", .type "dict"], _, rfl, hp, .cons (.ty _) (.cons (.ty _) (.cons (.ty _) .nil)), Dp.ty h e, by
    have h1 := kit_ty (K := K) (kit_tuple d)
    have h2 := kit_ty (K := K) (kit_list d)
    have h3 := kit_ty (K := K) (kit_dict d)
    simp only [PySem.W.kitAny, h1, h2, h3]
    cases isTup d <;> cases isList d <;> cases isDict d <;> rfl, q⟩

/-! ### == and != with an empty list, an empty tuple -/
def rEmL (K : PySem.W.Frag) (neg : Bool) : R2 := fun x y H Q => ∃ a b xs, x = .ref a ∧ y = .ref b ∧ SqL K H a xs ∧ SqL K H b [] ∧ Q (.bl (if neg then !xs.isEmpty else xs.isEmpty)) H
def rEmT (K : PySem.W.Frag) (neg : Bool) : R2 := fun x y H Q => ∃ a b xs, x = .ref a ∧ y = .ref b ∧ SqT K H a xs ∧ SqT K H b [] ∧ Q (.bl (if neg then !xs.isEmpty else xs.isEmpty)) H
section
variable {X : Cx}
theorem op_neNilL (hu : X.A.units + 64 < cLine) : OpR X (compareOp .NotEq) (rEmL X.K true) := by
  intro pins s σ H x y v u Q I rx ry h
  obtain ⟨a, b, xs, rfl, rfl, h1, h2, q⟩ := h
  cases rx
  cases ry
  obtain ⟨its, r1, p1, _⟩ := I.list h1
  obtain ⟨its2, r2, p2, _⟩ := I.list h2
  have e2 : its2 = [] := Vals.zero r2
  subst e2
  have hu' : X.A.units < cLine := by omega
  cases xs with
  | nil =>
    have e1 : its = [] := Vals.zero r1
    subst e1
    exact SeqAt.RcNeAt.lists (e := fun _ => true) p1.isList p2.isList rfl hu' (fun j h1 _ => absurd h1 (by simp)) X.prog X.w X.xe _ ⟨.bl false, H, I, rfl, q⟩
  | cons x r =>
    refine SeqAt.RcNeAt.lists_lengths p1.isList p2.isList ?_ hu' X.prog X.w X.xe _ ⟨.bl true, H, I, rfl, q⟩
    have := r1.length
    cases its with
    | nil => simp at this
    | cons z t => simp
theorem op_eqNilL (hu : X.A.units + 64 < cLine) : OpR X (compareOp .Eq) (rEmL X.K false) := by
  intro pins s σ H x y v u Q I rx ry h
  obtain ⟨a, b, xs, rfl, rfl, h1, h2, q⟩ := h
  cases rx
  cases ry
  obtain ⟨its, r1, p1, _⟩ := I.list h1
  obtain ⟨its2, r2, p2, _⟩ := I.list h2
  have e2 : its2 = [] := Vals.zero r2
  subst e2
  have hu' : X.A.units < cLine := by omega
  cases xs with
  | nil =>
    have e1 : its = [] := Vals.zero r1
    subst e1
    exact SeqAt.RcAt.lists (e := fun _ => true) p1.isList p2.isList rfl hu' (fun j h1 _ => absurd h1 (by simp)) X.prog X.w X.xe _ ⟨.bl true, H, I, rfl, q⟩
  | cons x r =>
    refine SeqAt.RcAt.lists_lengths p1.isList p2.isList ?_ hu' X.prog X.w X.xe _ ⟨.bl false, H, I, rfl, q⟩
    have := r1.length
    cases its with
    | nil => simp at this
    | cons z t => simp
theorem op_neNilT (hu : X.A.units + 64 < cLine) : OpR X (compareOp .NotEq) (rEmT X.K true) := by
  intro pins s σ H x y v u Q I rx ry h
  obtain ⟨a, b, xs, rfl, rfl, h1, h2, q⟩ := h
  cases rx
  cases ry
  obtain ⟨its, r1, ⟨o1, ho1, hc1, n1, hd1⟩, _⟩ := I.tuple h1
  obtain ⟨its2, r2, ⟨o2, ho2, hc2, n2, hd2⟩, _⟩ := I.tuple h2
  have e2 : its2 = [] := Vals.zero r2
  subst e2
  have hu' : X.A.units < cLine := by omega
  have t1 : s.heap.IsTuple a its.toArray := ⟨_, ho1, hc1, n1, hd1⟩
  have t2 : s.heap.IsTuple b ([] : List Value).toArray := ⟨_, ho2, hc2, n2, hd2⟩
  refine SeqAt.RcNeAt.tuples (e := fun _ => true) t1 t2 hu' (fun j _ h1 => absurd h1 (by simp)) X.prog X.w X.xe _ ⟨.bl (!xs.isEmpty), H, I, ?_, q⟩
  have := r1.length
  cases xs with
  | nil =>
    have e1 : its = [] := Vals.zero r1
    subst e1
    rfl
  | cons x r =>
    cases its with
    | nil => simp at this
    | cons z t =>
      show Value.bool _ = Value.bool _
      simp
theorem op_eqNilT (hu : X.A.units + 64 < cLine) : OpR X (compareOp .Eq) (rEmT X.K false) := by
  intro pins s σ H x y v u Q I rx ry h
  obtain ⟨a, b, xs, rfl, rfl, h1, h2, q⟩ := h
  cases rx
  cases ry
  obtain ⟨its, r1, ⟨o1, ho1, hc1, n1, hd1⟩, _⟩ := I.tuple h1
  obtain ⟨its2, r2, ⟨o2, ho2, hc2, n2, hd2⟩, _⟩ := I.tuple h2
  have e2 : its2 = [] := Vals.zero r2
  subst e2
  have hu' : X.A.units < cLine := by omega
  have t1 : s.heap.IsTuple a its.toArray := ⟨_, ho1, hc1, n1, hd1⟩
  have t2 : s.heap.IsTuple b ([] : List Value).toArray := ⟨_, ho2, hc2, n2, hd2⟩
  refine SeqAt.RcAt.tuples (e := fun _ => true) t1 t2 hu' (fun j _ h1 => absurd h1 (by simp)) X.prog X.w X.xe _ ⟨.bl xs.isEmpty, H, I, ?_, q⟩
  have := r1.length
  cases xs with
  | nil =>
    have e1 : its = [] := Vals.zero r1
    subst e1
    rfl
  | cons x r =>
    cases its with
    | nil => simp at this
    | cons z t =>
      show Value.bool _ = Value.bool _
      simp
end
section
variable {K : PySem.W.Frag} {B H : Hp} {Q : VK} {x y : V}
theorem sx_emL {neg : Bool} {a b : Addr} {xs : List V} (h1 : SqL K H a xs) (h2 : SqL K H b []) (q : Q (.bl (if neg then !xs.isEmpty else xs.isEmpty)) H) : rEmL K neg (.ref a) (.ref b) H Q := ⟨a, b, xs, rfl, rfl, h1, h2, q⟩
theorem sx_neTd {ds : List PyData} (h1 : Dp K B x (.tuple ds)) (e : Ex B H) {b : Addr} (h2 : H b = some (.tup [])) (q : Q (.bl (!ds.isEmpty)) H) : rEmT K true x (.ref b) H Q := by
  obtain ⟨a, xs, rfl, hs, hd⟩ := Dp.tup_v h1
  refine ⟨a, b, xs, rfl, rfl, e.t hs, SqT.of h2, ?_⟩
  have := Dps.len hd
  cases xs <;> cases ds <;> simp_all
/-! in a display of texts -/
theorem inV_str (z : Str) (ss : List Str) : inV (.str z) (ss.map V.str) = decide (z ∈ ss) := by
  unfold inV
  induction ss with
  | nil => rfl
  | cons s r ih =>
    rw [List.map_cons, List.any_cons, ih]
    have : eqV (.str s) (.str z) = decide (s = z) := by
      show (s == z) = decide (s = z)
      rw [Bool.eq_iff_iff, beq_iff_eq, decide_eq_true_iff]
    rw [this]
    by_cases h : z = s
    · subst h; simp
    · have h' : ¬ s = z := fun e => h e.symm
      simp [h, h']
theorem flat_strs (ss : List Str) : (ss.map V.str).all flatV = true := by
  induction ss with
  | nil => rfl
  | cons s r ih => rw [List.map_cons, List.all_cons, ih]; rfl
theorem sx_inTs {p : Addr} {z : Str} (ss : List Str) (h : SqT K H p (ss.map V.str)) (q : Q (.bl (decide (z ∈ ss))) H) : rIn K false (.str z) (.ref p) H Q :=
  ⟨p, _, rfl, .inr h, rfl, flat_strs ss, by simp only [Bool.false_eq_true, if_false, inV_str]; exact q⟩
theorem sx_inLs {p : Addr} {z : Str} (ss : List Str) (h : SqL K H p (ss.map V.str)) (q : Q (.bl (decide (z ∈ ss))) H) : rIn K false (.str z) (.ref p) H Q :=
  ⟨p, _, rfl, .inl h, rfl, flat_strs ss, by simp only [Bool.false_eq_true, if_false, inV_str]; exact q⟩
end

theorem sx_neLd {K : PySem.W.Frag} {B H : Hp} {Q : VK} {neg : Bool} {b : Addr} {xs : List V} {l : Addr} (m : Mu B H l xs) (h2 : SqL K H b []) (q : Q (.bl (if neg then !xs.isEmpty else xs.isEmpty)) H) : rEmL K neg (.ref l) (.ref b) H Q := ⟨l, b, xs, rfl, rfl, m.sq, h2, q⟩

theorem at0 {α : Type} {x : α} {r : List α} : atI (x :: r) 0 = some x := atI_nat (j := 0) rfl
theorem at1 {α : Type} {x y : α} {r : List α} : atI (x :: y :: r) 1 = some y := atI_nat (j := 1) rfl
theorem at2 {α : Type} {x y z : α} {r : List α} : atI (x :: y :: z :: r) 2 = some z := atI_nat (j := 2) rfl

theorem sx_catT {K : PySem.W.Frag} {B H : Hp} {Q : VK} {a b : Addr} {xs ys : List V} (e : Ex B H) (h1 : SqT K H a xs) (h2 : SqT K H b ys) (hx : xs ≠ []) (hy : ys ≠ []) (hz : xs.length + ys.length ≤ 100000)
    (q : ∀ p H', H p = none → Nx [] B H B H' → H' p = some (.tup (xs ++ ys)) → Q (.ref p) H') : rCatT K (.ref a) (.ref b) H Q :=
  ⟨a, b, xs, ys, rfl, rfl, h1, h2, hx, sz_of hz, fun z => absurd z hy, fun _ p hp => q p _ hp (Nx.own e hp) upd_same⟩
theorem sx_extend {B H : Hp} {Q : VK} {l b : Addr} {xs ys : List V} (m : Mu B H l xs) (e : Ex B H) (hb : H b = some (.lst ys)) (hz : xs.length + ys.length ≤ 100000) (q : ∀ H', Nx [l] B H B H' → Mu B H' l (xs ++ ys) → Q .non H') : rExtend (.ref l) [.ref b] H Q :=
  ⟨l, b, xs, ys, rfl, rfl, m.h, hb, sz_of hz, q _ (m.put e) m.set⟩

section
variable {K : PySem.W.Frag} {B H : Hp} {Q : VK} {x : V}
theorem cut_from1 (xs : List V) : cutV xs (some 1) none = xs.drop 1 := by
  unfold cutV
  rw [show HT.sIx xs.length 0 (some 1) = min 1 xs.length from HT.sIx_nat xs.length 0 1, HT.sIx_none]
  cases xs with
  | nil => rfl
  | cons x r =>
    rw [show min 1 (x :: r).length = 1 by rw [List.length_cons]; omega]
    show (List.take ((x :: r).length - 1) r) = r
    rw [List.length_cons, Nat.add_sub_cancel]
    exact List.take_length
/-- t[1:] -/
theorem sx_tail {d : PyData} {ds : List PyData} (h : Dp K B x (.tuple (d :: ds))) (e : Ex B H) (q : ∀ p B' H', H p = none → Nx [] B H B' H' → Dp K B' (.ref p) (.tuple ds) → Q (.ref p) H') : rSlT K x (some 1) none H Q := by
  obtain ⟨a, xs, rfl, hs, hd⟩ := Dp.tup_v h
  have hl := Dps.len hd
  refine ⟨a, xs, rfl, e.t hs, fun z => ?_, fun p hp => ?_⟩
  · have := z.1
    rw [show HT.sIx xs.length 0 (some 1) = min 1 xs.length from HT.sIx_nat xs.length 0 1, hl, List.length_cons] at this
    omega
  · rw [cut_from1]
    have hd' := Dps.drop 1 hd
    exact q p (upd B p (.tup (xs.drop 1))) _ hp (Nx.new e hp) (.tup (SqT.of upd_same) (Dps.up (Ex.new (e.free hp)) hd'))
theorem sx_listTd {ds : List PyData} (h : Dp K B x (.tuple ds)) (e : Ex B H) (q : ∀ l xs H', H l = none → Nx [] B H B H' → Mu B H' l xs → DpAll K B xs ds → Q (.ref l) H') : rListOf K [x] H Q := by
  obtain ⟨a, xs, rfl, hs, hd⟩ := Dp.tup_v h
  exact sx_listOf e (.inr (e.t hs)) fun l H' h1 h2 h3 => q l xs H' h1 h2 h3 hd
theorem sx_cat {l b : Addr} {xs ys : List V} (e : Ex B H) (h1 : H l = some (.lst xs)) (h2 : H b = some (.lst ys)) (hz : xs.length + ys.length ≤ 100000) (q : ∀ p H', H p = none → Nx [] B H B H' → Mu B H' p (xs ++ ys) → Q (.ref p) H') : rCat (.ref l) (.ref b) H Q :=
  ⟨l, b, xs, ys, rfl, rfl, h1, h2, sz_of hz, fun p hp => q p _ hp (Nx.own e hp) (Mu.new e hp)⟩
end
theorem sx_yes {σ : L2.St} {H : Hp} {R : Bool → Hp → Prop} (q : R true H) : tYes σ H R := q

/-- sorted of two ints -/
theorem sorted2 {ns : List Int} {i j : Int} (h : ns.Perm [i, j]) (k : ns.Pairwise (· ≤ ·)) : ns = [if j < i then j else i, if j > i then j else i] := by
  have hl := h.length_eq
  match ns, hl with
  | [x, y], _ =>
    have hxy : x ≤ y := by
      cases k with
      | cons a _ => exact a y (by simp)
    have hx : x ∈ [i, j] := h.mem_iff.mp (by simp)
    simp only [List.mem_cons, List.not_mem_nil, or_false] at hx
    rcases hx with rfl | rfl
    · have h2 := (List.perm_cons x).mp h
      have : y ∈ [j] := h2.mem_iff.mp (by simp)
      rw [List.mem_singleton] at this
      subst this
      rw [if_neg (by omega)]
      by_cases h : y > x
      · rw [if_pos h]
      · rw [if_neg h, show y = x by omega]
    · have h2 := (List.perm_cons x).mp (h.trans (List.Perm.swap x i []))
      have : y ∈ [i] := h2.mem_iff.mp (by simp)
      rw [List.mem_singleton] at this
      subst this
      rw [if_neg (show ¬ x > y by omega)]
      by_cases h : x < y
      · rw [if_pos h]
      · rw [if_neg h, show x = y by omega]
theorem sx_sorted2 {K : PySem.W.Frag} {B H : Hp} {Q : VK} {a : Addr} {i j : Int} (e : Ex B H) (h : SqL K H a [.int i, .int j]) (q : ∀ p H', H p = none → Nx [] B H B H' → Mu B H' p [.int (if j < i then j else i), .int (if j > i then j else i)] → Q (.ref p) H') : rSorted K [.ref a] H Q :=
  ⟨a, [i, j], rfl, h, by show 2 < 64; omega, fun ns p hp hs hn => by
    have := sorted2 hp hs
    subst this
    exact q p _ hn (Nx.own e hn) (Mu.new e hn)⟩
/-! ### within a comprehension: the fragment told ahead -/
section
variable {X : Cx} {K : PySem.W.Frag}
theorem k_isi (h : X.K = K) : CallR X (.builtin "isinstance") (rIsi K) := h ▸ call_isi
theorem k_isiT (h : X.K = K) : CallR X (.builtin "isinstance") (rIsiT K) := h ▸ call_isiT
theorem k_len (h : X.K = K) : CallR X (.builtin "len") (rLen K) := h ▸ cl_len
theorem k_list (h : X.K = K) : CallR X (.type "list") (rListOf K) := h ▸ cl_list
theorem k_tuple (h : X.K = K) : CallR X (.type "tuple") (rTupOf K) := h ▸ cl_tuple
theorem k_ixL (h : X.K = K) : IxR X (rIxL K) := h ▸ ix_list
theorem k_ixT (h : X.K = K) : IxR X (rIxT K) := h ▸ ix_tup
theorem k_in (h : X.K = K) : OpR X (compareOp .In) (rIn K false) := h ▸ op_in_seq
theorem k_nin (h : X.K = K) : OpR X (compareOp .NotIn) (rIn K true) := h ▸ op_notIn_seq
/-- [x for x in t if isinstance(x, tuple)] -/
theorem sx_lcTups {a : Addr} {xs : List V} {ds : List PyData} {j : Nat} {tt : TT} {te : TE} {vs : List Nat} {σ : L2.St} {B H : Hp} {Q : VK} (e : Ex B H) (hx : SqT K B a xs) (hd : DpAll K B xs ds) (hz : ds.length ≤ 100000)
    (hw : ∀ x, wipe ((wipe σ vs).set j (some x)) vs = wipe σ vs)
    (ht : ∀ x d, Dp K B x d → ∀ H1 (R : Bool → Hp → Prop), Ex B H1 → R (isTup d) H1 → tt ((wipe σ vs).set j (some x)) H1 R)
    (he : ∀ x ∈ xs, ∀ H1 (R : VK), Ex B H1 → R x H1 → te ((wipe σ vs).set j (some x)) H1 R)
    (q : ∀ p ys H', H p = none → Nx [] B H B H' → Mu B H' p ys → DpAll K B ys (ds.filter isTup) → Q (.ref p) H') : rLcT K (gName j) tt te vs σ (.ref a) H Q := by
  have hl := Dps.len hd
  refine sx_lcT_by (e.t hx) (fun L i H' => H L = none ∧ ∃ ys, Nx [] B H B H' ∧ Mu B H' L ys ∧ DpAll K B ys ((ds.take i).filter isTup)) (fun L hL => ⟨hL, [], Nx.own e hL, Mu.new e hL, .nil⟩) (fun L i H' _ ⟨_, ys, n, _, _⟩ => n.h.t hx) (fun L i x H1 hi p => ?_) (fun L H' ⟨hL, ys, n, m, d⟩ => ?_)
  · obtain ⟨hL, ys, n, m, d⟩ := p
    have hm : x ∈ xs := List.mem_of_getElem? hi
    obtain ⟨d1, e1, hd1⟩ := Dps.got hd hi
    have et : (ds.take (i + 1)).filter isTup = (ds.take i).filter isTup ++ if isTup d1 then [d1] else [] := by
      rw [List.take_add_one, e1, List.filter_append]
      cases z : isTup d1 <;> simp [z]
    refine sx_gname ⟨hw x, ht x d1 hd1 H1 _ n.h ?_⟩
    rw [et]
    cases z : isTup d1 with
    | false =>
      refine ifF rfl ?_
      exact ⟨hL, ys, n, m, by simpa using d⟩
    | true =>
      refine ifT rfl (he x hm H1 _ n.h ?_)
      have hlen := Dps.len d
      have h2 := List.length_filter_le isTup (ds.take i)
      have h3 := List.length_take_le i ds
      have h4 := (List.getElem?_eq_some_iff.mp hi).1
      rw [List.length_take] at h2
      refine sx_lcEnd (P := fun H' => H L = none ∧ ∃ ys, Nx [] B H B H' ∧ Mu B H' L ys ∧ DpAll K B ys ((ds.take i).filter isTup ++ if true = true then [d1] else [])) m n.h (by omega) fun H2 n2 m2 => ⟨hL, ys ++ [x], n.loc n2 (by simp [hL]), m2, Dps.app d (Dps.one hd1)⟩
  · exact q L ys H' hL n m (by rw [hl, List.take_length] at d; exact d)
end
end G

/-! GR: tuples whose object is known: displays, tuple(list), t[::-1], dict(t). -/
namespace L2.HT
open PySem PySem.Spec PyProof.Rows
end L2.HT
namespace G
open PySem PySem.Spec PyProof.Rows L2
section
variable {prog : Program} {w : World} {A : Around} {E : Value → Shared → Prop} {s : Shared}
theorem rev_adjust (n : Nat) : Builtin.Slice.sliceAdjust none none (-1) (n : Int) = ((n : Int) - 1, -1) := by
  unfold Builtin.Slice.sliceAdjust
  rfl
theorem rev_places (n : Nat) : Builtin.Slice.slicePlaces ((n : Int) - 1) (-1) (-1) = n := by
  unfold Builtin.Slice.slicePlaces
  have h1 : ¬ ((-1 : Int) > 0) := by omega
  simp only [h1, if_false]
  have e : ((n : Int) - 1 - -1 - 1) / (- -1) = (n : Int) - 1 := by
    rw [show (- -1 : Int) = 1 by decide, Int.ediv_one]
    omega
  split
  · rw [e]
    omega
  · omega
theorem fm_congr {α β : Type} {f g : α → Option β} : ∀ {l : List α}, (∀ m ∈ l, f m = g m) → l.filterMap f = l.filterMap g
  | [], _ => rfl
  | x :: r, h => by
    rw [List.filterMap_cons, List.filterMap_cons, h x List.mem_cons_self, fm_congr fun m hm => h m (List.mem_cons_of_mem _ hm)]
theorem rev_pick (xs : Array Value) : ((List.range xs.size).filterMap fun (m : Nat) => xs[(((xs.size : Int) - 1) + (m : Int) * (-1)).toNat]?).toArray = xs.toList.reverse.toArray := by
  have e : (List.range xs.size).filterMap (fun (m : Nat) => xs[(((xs.size : Int) - 1) + (m : Int) * (-1)).toNat]?) = ((List.range xs.size).map fun k => xs.size - 1 - k).filterMap (xs[·]?) := by
    rw [List.filterMap_map]
    refine fm_congr fun m hm => ?_
    have := List.mem_range.mp hm
    show xs[_]? = xs[xs.size - 1 - m]?
    congr 1
    omega
  rw [e, PySem.W.krv_range, List.filterMap_reverse, PySem.W.krv_all]
theorem getItem_tuple_rev {t sl : Addr} {items : Array Value} {u : Tok} {Q : Value → Shared → Prop} (ht : IsTup s.heap t items) (hs : s.heap.IsSliceOf sl .none .none (.int (-1) u))
    (h : Q (.ref s.heap.objs.size) { s with heap := s.heap.push { cls := .type "tuple", data := .seq items.toList.reverse.toArray } }) (hsz : items.size ≤ sizeLine) : wpAny (model prog w) A (getItem (.ref t) (.ref sl)) Q E s := by
  have htake : sizeOk (.seq items.toList.reverse.toArray) := by
    show items.toList.reverse.toArray.size ≤ sizeLine
    rw [List.size_toArray, List.length_reverse, Array.length_toList]
    exact hsz
  obtain ⟨os, hos, hcs, hds⟩ := id hs
  have hTs : s.TypeIs (.ref sl) "slice" := ⟨os, hos, hcs⟩
  unfold getItem
  try with_reducible refine wpAny_holding ?_
  first | refine wpAny_bind (wpAny_pure ?_) | skip
  refine wpAny_bind (wpAny_sequenceKey ht.typeIs (by decide) ?_)
  refine wpAny_bind (wpAny_callSpecial?_slot (name := Str.ofString "__getitem__") ht.typeIs PyProof.Rows.slot_tuple_getitem
    (wpAny_call_entry PyProof.Rows.slot_tuple_getitem ht.typeIs entry_tuple_getitem ?_ (args_tuple_getitem _ _)))
  show wpAny _ _ (Builtin.Tuple.tupleItemsOf (.ref t) >>= _) _ _ s
  refine wpAny_bind (tupleItemsOf_ ht ?_)
  refine wpAny_bind (wpAny_typeOf hTs ?_)
  rw [if_pos (by decide)]
  have ap : ∀ {Q : Int × Int × Nat → Shared → Prop}, Q ((items.size : Int) - 1, -1, items.size) s → wpAny (model prog w) A.in1 (Builtin.Slice.sliceApplied (.ref sl) (pure (items.size : Int))) Q
      (fun e s' => E e s') s → True := fun _ _ => trivial
  refine wpAny_bind ?_
  unfold Builtin.Slice.sliceApplied Builtin.Slice.sliceFields
  refine wpAny_bind (wpAny_bind (wpAny_field hos hds (x := .none) rfl (wpAny_bind (wpAny_field hos hds (x := .none) rfl (wpAny_bind (wpAny_field hos hds (x := .int (-1) u) rfl (wpAny_pure ?_)))))))
  refine wpAny_bind (slicePart_int ?_)
  show wpAny _ _ (if ((-1 : Int) == 0) = true then _ else _) _ _ s
  rw [if_neg (by decide)]
  refine wpAny_bind (slicePart_none (wpAny_bind (slicePart_none (wpAny_bind (wpAny_pure ?_)))))
  show wpAny _ _ (match Builtin.Slice.sliceAdjust none none (-1) (items.size : Int) with | (lo, hi) => pure (lo, (-1 : Int), Builtin.Slice.slicePlaces lo hi (-1))) _ _ s
  rw [rev_adjust]
  show wpAny _ _ (pure ((items.size : Int) - 1, (-1 : Int), Builtin.Slice.slicePlaces ((items.size : Int) - 1) (-1) (-1))) _ _ s
  rw [rev_places]
  refine wpAny_pure ?_
  have hno : ¬ ((((items.size : Int) - 1) == 0 && (-1 : Int) == 1 && items.size == items.size) = true) := by simp
  show wpAny _ _ (if (((items.size : Int) - 1) == 0 && (-1 : Int) == 1 && items.size == items.size) = true then _ else _) _ _ s
  rw [if_neg hno, rev_pick]
  first
    | exact wpAny_bind (m := Builtin.Tuple.tupleExact _) (wpAny_newObj_type (wpAny_pure ⟨_, rfl, wpAny_pure h⟩) htake)
    | exact wpAny_bind (m := Builtin.Tuple.tupleExact _) (wpAny_newObj_type (wpAny_bind (wpAny_pure (wpAny_pure ⟨_, rfl, wpAny_pure h⟩))) htake)
    | exact wpAny_bind (wpAny_bind (m := Builtin.Tuple.tupleExact _) (wpAny_newObj_type (wpAny_pure (wpAny_pure ⟨_, rfl, wpAny_pure h⟩)) htake))
    | exact wpAny_bind (wpAny_bind (m := Builtin.Tuple.tupleExact _) (wpAny_newObj_type (wpAny_pure ⟨_, rfl, wpAny_pure h⟩) htake))
end
/-- a tuple whose object is known to have no dict -/
def TupO (o : Obj) : Prop := o.dict = none ∧ o.cls = .type "tuple"
section
variable {X : Cx} {es : List Expr} {e : Expr} {pos : Pos} {t : TA} {te : TE}
def rNewF (xs : List V) (H : Hp) (Q : VK) : Prop := xs.length ≤ sizeLine ∧ ∀ p o, H p = none → TupO o → Q (.ref p) (upd H p (.frz o (.tup xs)))
def tTupF (t : TA) : TE := fun σ H Q => t σ H fun xs H1 => rNewF xs H1 Q
theorem pe_tupF {x1} (h : PA X es t) : PE X (.Tuple es x1 pos) (tTupF t) := by
  refine ⟨fun pins s σ H Q I hq => ?_⟩
  refine wpAny_Tuple_spliced (thn (h.run pos pins s σ H _ I hq) fun us s1 ⟨xs, H1, I1, r, z, q⟩ => ⟨by rw [← r.length]; exact z, ?_⟩)
  have hf : H1 s1.heap.objs.size = none := I1.hok.fresh (Nat.le_refl _)
  refine ⟨.ref s1.heap.objs.size, upd H1 s1.heap.objs.size (.frz { cls := .type "tuple", data := .seq us.toArray } (.tup xs)), I1.laid (t' := s1.toks) (fun b u e => Heap.get?_push_of_some _ e) (Nat.le_refl _) ?_, rfl, q _ _ hf ⟨rfl, rfl⟩⟩
  exact ⟨Heap.get?_push_size _ rfl, z, us, r, ⟨_, Heap.get?_push_size _ rfl, rfl, _, rfl⟩⟩
/-- tuple(a list) -/
def rTupF (K : PySem.W.Frag) : List V → Hp → VK → Prop := fun xs H Q => ∃ p ys, xs = [.ref p] ∧ SqL K H p ys ∧ ∀ l o, H l = none → TupO o → Q (.ref l) (upd H l (.frz o (.tup ys)))
theorem cl_tupleF : CallR X (.type "tuple") (rTupF X.K) := by
  intro pins s σ H xs us Q I r h
  obtain ⟨p, ys, rfl, hq, q⟩ := h
  obtain ⟨u, rfl, rx⟩ := vals1 r
  cases rx
  obtain ⟨its, r', pl, hz⟩ := I.list hq
  have hlen := r'.length
  refine call_tuple_list pl.isList (fun h' kp => ?_) (by simp only [List.size_toArray] <;> omega)
  have I1 : Inv X pins σ H { s with heap := h' } := I.kept (t' := s.toks) kp
  have I2 : Inv X pins σ (upd H h'.objs.size (.frz { cls := .type "tuple", data := .seq its.toArray } (.tup ys))) { s with heap := h'.push { cls := .type "tuple", data := .seq its.toArray } } :=
    I1.laid (t' := s.toks) (fun b o e => Heap.get?_push_of_some _ e) (Nat.le_refl _) (show ObjOk X.prog X.w _ _ _ (.frz _ (.tup ys)) from ⟨Heap.get?_push_size _ rfl, hz, its, r', IsTup.new _ _⟩)
  exact ⟨.ref h'.objs.size, _, I2, rfl, q _ _ (I1.hok.fresh (Nat.le_refl _)) ⟨rfl, rfl⟩⟩
/-- t[::-1] -/
def rRevT (K : PySem.W.Frag) : V → Hp → VK → Prop := fun x H Q => ∃ a xs, x = .ref a ∧ SqT K H a xs ∧ ∀ p o, H p = none → TupO o → Q (.ref p) (upd H p (.frz o (.tup xs.reverse)))
def tRevT (K : PySem.W.Frag) (te : TE) : TE := fun σ H Q => te σ H fun x H1 => rRevT K x H1 Q
theorem pe_revT {k : Nat} {p1 p2 p3 : Pos} (he : PE X e te) : PE X (.Subscript e (.Slice none none (some (.UnaryOp .USub (.Constant (.int 1) k p1) p2)) p3) pos) (tRevT X.K te) := by
  refine ⟨fun pins s σ H Q I h => ?_⟩
  refine Subscript_ (thn (he.run pins s σ H _ I h) fun v s1 ⟨x, H1, I1, r1, q1⟩ => ?_)
  obtain ⟨a, xs, ex, hx, q⟩ := q1
  subst ex
  cases r1
  have hst : PO X (some (.UnaryOp .USub (.Constant (.int 1) k p1) p2)) (tPart (tUn (rU fun i => .int (-i)) (tC (.int 1)))) := po_some (pe_un un_neg pe_int)
  refine wpAny_Slice (thn (po_none.run pins s1 σ H1 (fun o H2 => o = none ∧ H2 = H1) I1 ⟨rfl, rfl⟩) fun vl s2 ⟨l, H2, I2, pl, el, e2⟩ => ?_)
  subst el e2
  refine thn (po_none.run pins s2 σ H2 (fun o H3 => o = none ∧ H3 = H2) I2 ⟨rfl, rfl⟩) fun vu s3 ⟨u, H3, I3, pu, eu, e3⟩ => ?_
  subst eu e3
  refine thn (hst.run pins s3 σ H3 (fun o H4 => o = some (-1) ∧ H4 = H3) I3 ⟨1, rfl, -1, rfl, rfl, rfl⟩) fun vs s4 ⟨o, H4, I4, ps, eo, e4⟩ => ?_
  subst eo e4
  have I5 : Inv X pins σ H4 { s4 with heap := s4.heap.push { cls := .type "slice", data := .fields #[vl, vu, vs] } } := I4.kept (t' := s4.toks) fun b ob q => Heap.get?_push_of_some _ q
  obtain ⟨its, r, ht, hz⟩ := I5.tuple hx
  have hlen := r.length
  cases pl
  cases pu
  cases ps with
  | int _ tk =>
    show wpAny (model X.prog X.w) X.A (subscriptTail e (.Slice none none (some (.UnaryOp .USub (.Constant (.int 1) k p1) p2)) p3) (.ref a) (.ref s4.heap.objs.size)) (EP X pins σ Q) X.xe { s4 with heap := s4.heap.push { cls := .type "slice", data := .fields #[.none, .none, .int (-1) tk] } }
    refine tail_any (ops := [.ref a, .ref s4.heap.objs.size]) ht.typeIs (PyProof.Rows.slot_tuple_getitem.lookup) ?_ (by with_unfolding_all rfl)
    refine getItem_tuple_rev ht (Heap.IsSliceOf.new _ .none .none (.int (-1) tk)) ?_ (by rw [List.size_toArray]; omega)
    refine ⟨.ref _, _, I5.laid (t' := s4.toks) (o := .frz { cls := .type "tuple", data := .seq its.reverse.toArray } (.tup xs.reverse)) (fun b ob q => Heap.get?_push_of_some _ q) (Nat.le_refl _) ?_, rfl, q _ _ (I5.hok.fresh (Nat.le_refl _)) ⟨rfl, rfl⟩⟩
    exact ⟨Heap.get?_push_size _ rfl, by rw [List.length_reverse]; exact hz, _, r.reverse, _, Heap.get?_push_size _ rfl, rfl, _, rfl⟩
theorem pairs_of2 {pins : List (Addr × Obj)} {σ : L2.St} {H : Hp} {s : Shared} (I : Inv X pins σ H s) : ∀ {ps : List Addr} {kvs : List (Key × V)}, Paired (fun p kv => SqT X.K H p [kV kv.1, kv.2]) ps kvs →
    ∃ (prs : List (Key × Value)) (vps : List (Value × Value)), KV kvs prs ∧ prs.length = ps.length ∧ vps.length = ps.length ∧ ∀ (j : Nat) (k v : Value), vps[j]? = some (k, v) → ∃ (b : Addr) (key : Key), ps[j]? = some b ∧ IsTup s.heap b #[k, v] ∧ prs[j]? = some (key, v) ∧ keyIs key k = true
  | _, _, .nil => ⟨[], [], .nil, rfl, rfl, fun j k v e => by simp at e⟩
  | _, _, .cons (a := p) (b := kv) h t => by
    obtain ⟨prs, vps, r, hl, hl2, hp⟩ := pairs_of2 I t
    obtain ⟨its, rv, ht, _⟩ := I.tuple h
    obtain ⟨u, y, ei, ru, ry⟩ := vals2 rv
    subst ei
    refine ⟨(kv.1, y) :: prs, (u, y) :: vps, .cons ⟨rfl, ry⟩ r, by rw [List.length_cons, List.length_cons, hl], by rw [List.length_cons, List.length_cons, hl2], fun j k v e => ?_⟩
    cases j with
    | zero =>
      have e' : (u, y) = (k, v) := Option.some.inj e
      cases e'
      refine ⟨p, kv.1, rfl, ht, rfl, ?_⟩
      cases hk : kv.1 with
      | inl i =>
        rw [hk] at ru
        obtain ⟨tk, rfl⟩ := (show ∃ t, u = Value.int i t from ru)
        exact keyIs_int i tk
      | inr z =>
        rw [hk] at ru
        obtain ⟨tk, rfl⟩ := (show ∃ t, u = Value.str z t from ru)
        exact keyIs_str z tk
    | succ j => exact hp j k v e
/-- dict(a tuple of pairs) -/
def rDictT (K : PySem.W.Frag) : List V → Hp → VK → Prop := fun xs H Q => ∃ (a : Addr) (o : Obj) (ps : List Addr) (kvs : List (Key × V)), xs = [.ref a] ∧ H a = some (.frz o (.tup (ps.map V.ref))) ∧ TupO o ∧ Paired (fun p kv => SqT K H p [kV kv.1, kv.2]) ps kvs ∧
  ∀ p, H p = none → Q (.ref p) (upd H p (.dK (mergeK [] kvs)))
theorem cl_dictT (hcalm : X.calm = true) : CallR X (.type "dict") (rDictT X.K) := by
  intro pins s σ H xs us Q I r q
  obtain ⟨a, o, ps, kvs, ex, hq, to, hp, q⟩ := q
  subst ex
  obtain ⟨u, eu, rx⟩ := vals1 r
  subst eu
  cases rx
  obtain ⟨ho, hz, its, rv, o2, ho2, hc2, n, hd2⟩ := (show ObjOk X.prog X.w H s.heap a (.frz o (.tup (ps.map V.ref))) from I.hok a _ hq)
  rw [ho] at ho2
  cases ho2
  have ei := refs_at rv
  subst ei
  rw [List.length_map] at hz
  obtain ⟨prs, vps, rel, hl, hl2, hpr⟩ := pairs_of2 I hp
  have ok : PlainSeq "tuple" s.heap a (ps.map Value.ref).toArray ∧ PairItems s.heap (ps.map Value.ref).toArray (fun j => (ps[j]?).getD 0) vps :=
    ⟨⟨o, n, ho, to.2, to.1, hd2⟩, by simp [hl2], fun j k v e => by
      obtain ⟨b, key, e1, e2, e3, e4⟩ := hpr j k v e
      refine ⟨by simp [e1], .inl ?_⟩
      obtain ⟨ob, q1, q2, q3⟩ := e2
      exact ⟨ob, by simpa [e1] using q1, q2, q3⟩⟩
  refine PySem.call_dict_pairs (knd := mixKind X.prog X.w) (kvs := prs) (PairArg.tuple a _ _ vps) (I.ok.hd hcalm) ok ⟨by rw [hl, hl2], fun i key v e => ?_⟩ (by rw [hl2]; exact hz) fun h' tk hd' k => ?_
  · obtain ⟨b, ky, e1, e2, e3, e4⟩ := hpr i key v e
    exact ⟨ky, e3, e4⟩
  · have k : ∀ b o, s.heap.get? b = some o → h'.get? b = some o := fun b o e => k b o (by simp) e
    have hm : (s.heap.objs.size == sysModules) = false := beq_eq_false_iff_ne.mpr (Nat.ne_of_gt I.big)
    have hlen : (mergeK [] kvs).length ≤ sizeLine := by
      refine Nat.le_trans (length_mergeK kvs []) ?_
      rw [List.length_nil, Nat.zero_add, rel.length, hl]
      exact hz
    exact ⟨.ref s.heap.objs.size, upd H s.heap.objs.size (.dK (mergeK [] kvs)), I.laid (t' := tk) k (Nat.le_refl _) (show ObjOk X.prog X.w _ _ _ (.dK (mergeK [] kvs)) from ⟨hlen, hm, merged [] prs, KV.merge rel .nil, hd'⟩), rfl, q _ (I.hok.fresh (Nat.le_refl _))⟩
end
section
variable {K : PySem.W.Frag} {B H : Hp} {Q : VK} {σ : L2.St} {t : TA} {te : TE}
theorem sx_tupF (q : t σ H fun xs H1 => rNewF xs H1 Q) : tTupF t σ H Q := q
theorem sx_revT (q : te σ H fun x H1 => rRevT K x H1 Q) : tRevT K te σ H Q := q
theorem fz_dp {p : Addr} {o : Obj} {xs : List V} {ds : List PyData} (e : Ex B H) (hp : H p = none) (hd : DpAll K B xs ds) : Dp K (upd B p (.frz o (.tup xs))) (.ref p) (.tuple ds) :=
  .tup (.inl (.inr ⟨o, upd_same⟩)) (Dps.up (Ex.new (e.free hp)) hd)
theorem sx_newF {xs : List V} {ds : List PyData} (e : Ex B H) (hd : DpAll K B xs ds) (hz : ds.length ≤ 100000) (q : ∀ p o B' H', H p = none → Nx [] B H B' H' → Dp K B' (.ref p) (.tuple ds) → B' p = some (.frz o (.tup xs)) → TupO o → Q (.ref p) H') : rNewF xs H Q :=
  ⟨sz_of (by rw [Dps.len hd]; exact hz), fun p o hp to => q p o _ _ hp (Nx.new e hp) (fz_dp e hp hd) upd_same to⟩
theorem sx_tupOfF {a : Addr} {xs : List V} {ds : List PyData} (e : Ex B H) (h : SqL K H a xs) (hd : DpAll K B xs ds) (q : ∀ p o B' H', H p = none → Nx [] B H B' H' → Dp K B' (.ref p) (.tuple ds) → B' p = some (.frz o (.tup xs)) → TupO o → Q (.ref p) H') : rTupF K [.ref a] H Q :=
  ⟨a, xs, rfl, h, fun p o hp to => q p o _ _ hp (Nx.new e hp) (fz_dp e hp hd) upd_same to⟩
theorem sx_revTF {a : Addr} {xs : List V} {ds : List PyData} (e : Ex B H) (h : SqT K H a xs) (hd : DpAll K B xs ds) (q : ∀ p o B' H', H p = none → Nx [] B H B' H' → Dp K B' (.ref p) (.tuple ds.reverse) → B' p = some (.frz o (.tup xs.reverse)) → TupO o → Q (.ref p) H') : rRevT K (.ref a) H Q :=
  ⟨a, xs, rfl, h, fun p o hp to => q p o _ _ hp (Nx.new e hp) (fz_dp e hp (Dps.rev hd)) upd_same to⟩
theorem sx_dictT {a : Addr} {o : Obj} {ps : List Addr} {kvs : List (Key × V)} (e : Ex B H) (hb : B a = some (.frz o (.tup (ps.map V.ref)))) (to : TupO o) (hp : Paired (fun p kv => SqT K B p [kV kv.1, kv.2]) ps kvs)
    (q : ∀ p B' H', H p = none → Nx [] B H B' H' → B' p = some (.dK (mergeK [] kvs)) → Q (.ref p) H') : rDictT K [.ref a] H Q :=
  ⟨a, o, ps, kvs, rfl, e _ _ hb, to, Paired.mapP hp fun _ _ z => e.t z, fun p h => q p _ _ h (Nx.new e h) upd_same⟩
theorem sx_dget {td ty : TE} (q : td σ H fun x H1 => ty σ H1 fun y H2 => ∃ a v, x = .ref a ∧ DGet H2 a y (some v) ∧ Q v H2) : tDGet td ty σ H Q := q
theorem sx_dgetS {a : Addr} {kvs : List (Key × V)} {z : Str} {v : V} (e : Ex B H) (hb : B a = some (.dK kvs)) (hv : valV kvs (.inr z) = some v) {Q : V → Prop} (q : Q v) : ∃ a' v, V.ref a = .ref a' ∧ DGet H a' (.str z) (some v) ∧ Q v :=
  ⟨a, v, rfl, by
    have := DGet.k (k := Sum.inr z) (e _ _ hb)
    rw [hv] at this
    exact this, q⟩
/-! ### a dict of the top, texts to defs -/
def KFn (K : PySem.W.Frag) (w : World) (mg : Str → Option Value) (a : Addr) (k x : Str) : Prop := ∃ f, mg x = some (.ref f) ∧ KDct K w a k (.ref f)
def tGD (K : PySem.W.Frag) (w : World) (mg : Str → Option Value) (ps : List (Str × Str)) : TE := fun _ H Q => ∀ a, (∀ q ∈ ps, KFn K w mg a q.1 q.2) → Q (.ref a) H
theorem pe_gD {X : Cx} {x : Str} {pos : Pos} {ps : List (Str × Str)} (hg : Gl X x) (g : ∃ a, X.mg x = some (.ref a) ∧ ∀ q ∈ ps, KFn X.K X.w X.mg a q.1 q.2) (hd : (x == ("__debug__" : Str)) = false := by decide) : PE X (.Name x pos) (tGD X.K X.w X.mg ps) := by
  obtain ⟨a, g, h⟩ := g
  refine ⟨fun pins s σ H Q I q => ld_glob I hg g ⟨.ref a, H, I, rfl, q a h⟩ hd⟩
theorem sx_GD {w : World} {mg : Str → Option Value} {ps : List (Str × Str)} (q : ∀ a, (∀ q ∈ ps, KFn K w mg a q.1 q.2) → Q (.ref a) H) : tGD K w mg ps σ H Q := q
theorem sx_ixKD {w : World} {a : Addr} {z : Str} {v : V} (h : KDct K w a z v) (q : Q v H) : rIxD K w (.ref a) (.str z) H Q := ⟨a, z, v, rfl, rfl, h, q⟩
/-! ### a call of a local that holds a def -/
def tCallV (P : Program) (w : World) (K : PySem.W.Frag) (mg : Str → Option Value) (base : Heap) (k i : Nat) (t : TA) : TE := fun σ H Q => ∃ f sp, σ[i]? = some (some (.ref f)) ∧ Held P w K mg base k f sp ∧ t σ H fun vs H1 => sp vs H1 Q (fun _ _ _ => False)
theorem pe_callV {X : Cx} {k i j : Nat} {x : Str} {p pos : Pos} {e : Expr} {es : List Expr} (hr : Room j X.A) (hk : k ≤ j) (hN : X.N[i]? = some x) (hv : Vis X.env.scope x) (ha : PA X (e :: es) t)
    (hdb : (x == ("__debug__" : Str)) = false := by decide) (hcd : (x == ("__classdict__" : Str)) = false := by decide)
    (he : starEach (e :: es) X.env = (false, eval e X.env) :: starEach es X.env := by rfl) (hpl : (backTo pos (starEach es X.env)).any (·.1) = false := by rfl) : PE X (.Call (.Name x p) (e :: es) [] pos) (tCallV X.prog X.w X.K X.mg X.base k i t) := by
  refine ⟨fun pins s σ H Q I h => ?_⟩
  obtain ⟨f, sp, hs, ⟨fd, ps, F, hk2, hb⟩, ht⟩ := h
  refine (pe_callL (i := i) (f := f) (sp := sp) (dvs := []) (E := fun _ _ _ => False) F (hr.mono hk) hN hv hk2 hb .nil (fun _ _ _ _ _ _ _ z => z.elim) ha hdb hcd he hpl).run pins s σ H Q I ⟨hs, ?_⟩
  have e0 : (fun (vs : List V) (H1 : Hp) => sp (vs ++ []) H1 Q (fun _ _ _ => False)) = fun vs H1 => sp vs H1 Q (fun _ _ _ => False) := by
    funext vs H1
    rw [List.append_nil]
  show t σ H (fun vs H1 => sp (vs ++ []) H1 Q (fun _ _ _ => False))
  rw [e0]
  exact ht
theorem sx_callV {P : Program} {w : World} {mg : Str → Option Value} {base : Heap} {k i : Nat} {f : Addr} {sp : Sp} (hs : σ[i]? = some (some (.ref f))) (h : Held P w K mg base k f sp) (q : t σ H fun vs H1 => sp vs H1 Q (fun _ _ _ => False)) : tCallV P w K mg base k i t σ H Q := ⟨f, sp, hs, h, q⟩
theorem Has.held {P : Program} {w : World} {mg : Str → Option Value} {base : Heap} {x : Str} {st : Stmt} {k : Nat} {ps : List Str} {sp : Sp} {f : Addr} (h : Has P w K mg base x st k ps sp) (hf : mg x = some (.ref f)) : Held P w K mg base k f sp := by
  obtain ⟨f', fd, F, m, n, b⟩ := h
  rw [hf] at m
  have e : f = f' := by injection m with m; injection m
  subst e
  exact ⟨fd, ps, F, n.kp, b⟩
end
/-! ### calls by keywords alone -/
def gsw {α : Type} : List α → List α → List α
  | [], [a, b] => [b, a]
  | _, _ => []
theorem kb_swap {K : PySem.W.Frag} {x p1 p2 : Str} {st : Stmt} (hb : ∀ (kV doc pm : Value) (an : Option Addr) (cdv ct a b : Value), bindArgs (PySem.W.fnOf x x (defArgs st) (defBody st) (defScope st) .none kV doc pm an cdv ct) ⟨[], [(p2, a), (p1, b)]⟩ = pure [(p1, b), (p2, a)]) :
    ∀ f fd, Fun K x x st f fd → KBinds K fd [p1, p2] [p2, p1] gsw gsw := fun f fd F => by
  obtain ⟨oc, od, kV, doc, pm, an, cdv, ct, osl, rfl, lk, hcd⟩ := F.ex
  refine ⟨fun s us ws _ hl => ?_, fun {vs us zs ws} r rz => ?_⟩
  · match us, ws, hl with
    | [], [a, b], hl => exact .of_eq (hb kV doc pm an cdv ct a b)
  · cases r with
    | cons _ _ => exact .nil
    | nil =>
      cases rz with
      | nil => exact .nil
      | cons h t =>
        cases t with
        | nil => exact .nil
        | cons h2 t2 =>
          cases t2 with
          | nil => exact .cons h2 (.cons h .nil)
          | cons h3 t3 => exact .nil
section
variable {X : Cx} {x : Str} {st : Stmt} {k j : Nat} {ps ks : List Str} {sp : Sp} {p pos : Pos} {kws : List Keyword} {tk : TA} {g : List Value → List Value → List Value} {gV : List V → List V → List V}
theorem pe_callK0H (F : Has X.prog X.w X.K X.mg X.base x st k ps sp) (kb : ∀ f fd, Fun X.K x x st f fd → KBinds X.K fd ps ks g gV) (hr : Room j X.A) (hg : Gl X x) (hkw : PK X kws tk) (hk : k ≤ j := by decide)
    (hall : (backToKw pos (keywordEach kws X.env)).all (·.1.isSome) = true := by rfl) (hks : (backToKw pos (keywordEach kws X.env)).filterMap (·.1) = ks := by rfl) (hdb : (x == ("__debug__" : Str)) = false := by decide)
    (hpl : ((backTo pos (starEach [] X.env)).any (·.1) || (backToKw pos (keywordEach kws X.env)).any (·.1.isNone)) = false := by rfl) :
    PE X (.Call (.Name x p) [] kws pos) (tCallK sp gV E0 tNil tk) := by
  obtain ⟨f, fd, F, m, fn, b⟩ := F
  refine ⟨fun pins s σ H Q I h => ?_⟩
  refine wpAny_Call_Name_kw (ld_glob I hg m ?_ hdb)
  refine PySem.W.callWith_KW0 (h₀ := X.base) I.ok.mod.kin fn.kp hall ?_ hpl
  have h : tk σ H fun zs H2 => sp (gV [] zs) H2 Q E0 := h
  refine thn (hkw.run pos pins s σ H _ I h) fun ws s2 ⟨zs, H2, I2, rz, q2⟩ => ⟨I2.kIn, ?_⟩
  rw [hks]
  exact run_fnk F (hr.mono hk) (kb f fd fn) pass0 I2 .nil rz q2
theorem sx_callK {σ : L2.St} {H : Hp} {Q : VK} {E : XK} (q : tk σ H fun zs H2 => sp (gV [] zs) H2 Q E) : tCallK sp gV E tNil tk σ H Q := q
end
end G

namespace G
open PySem L2
/-! ### draws: a list of a list of numbers and a number -/
def big : Int := 10 ^ 384
structure Deal (B H : Hp) (d l : Addr) : Prop where
  ex : ∃ (cs : List Int) (mix : Int), Mu B H d [.ref l, .int mix] ∧ Mu B H l (cs.map V.int) ∧ (∀ c ∈ cs, 0 ≤ c ∧ c < big) ∧ cs.length ≤ 63 ∧ 0 ≤ mix ∧ mix < 2147483647
theorem Deal.ne {B H : Hp} {d l : Addr} (h : Deal B H d l) : d ≠ l := by
  obtain ⟨cs, mix, m1, m2, _⟩ := h
  intro e
  subst e
  have := m1.h.symm.trans m2.h
  cases cs with
  | nil => cases this
  | cons c r => cases this
theorem Deal.off {B H : Hp} {d l p : Addr} (h : Deal B H d l) (hp : H p = none) : p ≠ d ∧ p ≠ l := by
  obtain ⟨cs, mix, m1, m2, _⟩ := h
  exact ⟨m1.ne hp, m2.ne hp⟩
theorem Deal.up {M : List Addr} {B H B' H' : Hp} {d l : Addr} (h : Deal B H d l) (n : Nx M B H B' H') (hm : d ∉ M ∧ l ∉ M := by simp) : Deal B' H' d l := by
  obtain ⟨cs, mix, m1, m2, r⟩ := h
  exact ⟨cs, mix, m1.up n hm.1, m2.up n hm.2, r⟩
theorem Deal.in {B H : Hp} {d l : Addr} (h : Deal B H d l) : ∀ a ∈ [d, l], H a ≠ none := by
  obtain ⟨cs, mix, m1, m2, _⟩ := h
  intro a ha
  simp only [List.mem_cons, List.not_mem_nil, or_false] at ha
  rcases ha with rfl | rfl
  · rw [m1.h]; exact fun z => nomatch z
  · rw [m2.h]; exact fun z => nomatch z
/-- steps of draws -/
theorem Deal.tr {B H B1 H1 B2 H2 : Hp} {d l : Addr} (m : Nx [d, l] B H B1 H1) (k : Deal B1 H1 d l) (n : Nx [d, l] B1 H1 B2 H2) : Nx [d, l] B H B2 H2 := m.trans n fun a ha _ => k.in a ha
theorem Nx.go {M N : List Addr} {B H B1 H1 B2 H2 : Hp} (n : Nx M B H B1 H1) (m : Nx N B1 H1 B2 H2) (hN : ∀ a ∈ N, a ∈ M ∨ H a = none) (hM : ∀ a ∈ M, H a ≠ none → H1 a ≠ none) : Nx M B H B2 H2 :=
  ⟨n.b.trans m.b, m.h, fun a o h q => m.k a o (n.k a o h q) fun z => (by
    rcases hN a z with h1 | h1
    · exact q h1
    · rw [h1] at h; cases h), fun a h q => m.f a (n.f a h q) (by
    by_cases z : a ∈ M
    · exact hM a z q
    · intro y
      cases e : H a with
      | none => exact q e
      | some o => rw [n.k a o e z] at y; cases y)⟩
/-- a step behind draws -/
theorem Deal.go {N : List Addr} {B H B1 H1 B2 H2 : Hp} {d l : Addr} (n : Nx [d, l] B H B1 H1) (D : Deal B1 H1 d l) (m : Nx N B1 H1 B2 H2) (hN : ∀ a ∈ N, a ∈ [d, l] ∨ H a = none := by simp) : Nx [d, l] B H B2 H2 := n.go m hN fun a ha _ => D.in a ha
/-- pure first, then draws -/
theorem Deal.via {B H B1 H1 B2 H2 : Hp} {d l : Addr} (n : Nx [] B H B1 H1) (D : Deal B1 H1 d l) (m : Nx [d, l] B1 H1 B2 H2) : Nx [d, l] B H B2 H2 := (n.wk (by simp)).trans m fun a ha _ => D.in a ha
end G
namespace C
open PySem L2 G
/-! ### the text by places -/
def top (i : Nat) : Stmt := PySem.Challenge.pw_typedback_k02_what_is_an_expression_or_a.main.body.getD i (.Pass ⟨0, 0, 0, 0⟩)
abbrev s_is_integer : Stmt := top 1
abbrev s_is_positive : Stmt := top 2
abbrev s_is_word_first : Stmt := top 13
abbrev s_plain_parts : Stmt := top 14
abbrev s_expression_parts : Stmt := top 15
abbrev s_condition_parts : Stmt := top 16
abbrev s_are_right : Stmt := top 17
abbrev s_is_expression : Stmt := top 18
abbrev s_is_condition : Stmt := top 19
abbrev s_law_deal : Stmt := top 21
abbrev s_law_any : Stmt := top 22
abbrev s_law_of : Stmt := top 23
abbrev s_law_is_kind : Stmt := top 24
abbrev s_law_same : Stmt := top 25
abbrev s_law_all : Stmt := top 26
abbrev s_law_leaf : Stmt := top 27
abbrev s_law_sum_of : Stmt := top 28
abbrev s_law_test_of : Stmt := top 29
abbrev s_law_places : Stmt := top 30
abbrev s_law_exchanged : Stmt := top 31
abbrev s_law_bad_sums : Stmt := top 32
abbrev s_law_bad_tests : Stmt := top 33
abbrev s_law : Stmt := top 34
structure Txt (w : World) (K : PySem.W.Frag) (mg : Str → Option Value) : Prop where
  d_is_integer : Df K mg "is_integer" s_is_integer
  d_is_positive : Df K mg "is_positive" s_is_positive
  d_is_word_first : Df K mg "is_word_first" s_is_word_first
  d_plain_parts : Df K mg "plain_parts" s_plain_parts
  d_expression_parts : Df K mg "expression_parts" s_expression_parts
  d_condition_parts : Df K mg "condition_parts" s_condition_parts
  d_are_right : Df K mg "are_right" s_are_right
  d_is_expression : Df K mg "is_expression" s_is_expression
  d_is_condition : Df K mg "is_condition" s_is_condition
  d_law_deal : Df K mg "_law_deal" s_law_deal
  d_law_any : Df K mg "_law_any" s_law_any
  d_law_of : Df K mg "_law_of" s_law_of
  d_law_is_kind : Df K mg "_law_is_kind" s_law_is_kind
  d_law_same : Df K mg "_law_same" s_law_same
  d_law_all : Df K mg "_law_all" s_law_all
  d_law_leaf : Df K mg "_law_leaf" s_law_leaf
  d_law_sum_of : Df K mg "_law_sum_of" s_law_sum_of
  d_law_test_of : Df K mg "_law_test_of" s_law_test_of
  d_law_places : Df K mg "_law_places" s_law_places
  d_law_exchanged : Df K mg "_law_exchanged" s_law_exchanged
  d_law_bad_sums : Df K mg "_law_bad_sums" s_law_bad_sums
  d_law_bad_tests : Df K mg "_law_bad_tests" s_law_bad_tests
  d_law : Df K mg "law" s_law
  b_abs : mg "abs" = none
  b_bool : mg "bool" = none
  b_dict : mg "dict" = none
  b_int : mg "int" = none
  b_isinstance : mg "isinstance" = none
  b_len : mg "len" = none
  b_list : mg "list" = none
  b_range : mg "range" = none
  b_str : mg "str" = none
  b_tuple : mg "tuple" = none
  g_NUMBER : ∃ t, mg "NUMBER" = some (.str "number" t)
  g_FIELD : ∃ t, mg "FIELD" = some (.str "field" t)
  g_PAIRED : ∃ a, mg "PAIRED" = some (.ref a) ∧ ∀ H', SqT K H' a [.str "plus", .str "less", .str "times", .str "min", .str "max"]
  g_CUT : ∃ a, mg "CUT" = some (.ref a) ∧ ∀ H', SqT K H' a [.str "div", .str "rest"]
  g_COMPARED : ∃ a, mg "COMPARED" = some (.ref a) ∧ ∀ H', SqT K H' a [.str "same", .str "below"]
  g_JOINED : ∃ a, mg "JOINED" = some (.ref a) ∧ ∀ H', SqT K H' a [.str "and", .str "or"]
  g_NOT : ∃ t, mg "NOT" = some (.str "not" t)
  g_EXPRESSION : ∃ t, mg "EXPRESSION" = some (.str "expression" t)
  g_CONDITION : ∃ t, mg "CONDITION" = some (.str "condition" t)
theorem sc_is_integer : FnScope ["value"] ["value"] (defScope s_is_integer) := ⟨rfl, rfl, rfl, by decide +kernel, rfl, by decide +kernel, by decide +kernel⟩
theorem sc_is_positive : FnScope ["value"] ["value"] (defScope s_is_positive) := ⟨rfl, rfl, rfl, by decide +kernel, rfl, by decide +kernel, by decide +kernel⟩
theorem sc_is_word_first : FnScope ["value"] ["value"] (defScope s_is_word_first) := ⟨rfl, rfl, rfl, by decide +kernel, rfl, by decide +kernel, by decide +kernel⟩
theorem sc_plain_parts : FnScope ["names", "value"] ["names", "value"] (defScope s_plain_parts) := ⟨rfl, rfl, rfl, by decide +kernel, rfl, by decide +kernel, by decide +kernel⟩
theorem sc_expression_parts : FnScope ["names", "value", "word"] ["names", "value"] (defScope s_expression_parts) := ⟨rfl, rfl, rfl, by decide +kernel, rfl, by decide +kernel, by decide +kernel⟩
theorem sc_condition_parts : FnScope ["value", "word", "sort"] ["value"] (defScope s_condition_parts) := ⟨rfl, rfl, rfl, by decide +kernel, rfl, by decide +kernel, by decide +kernel⟩
theorem sc_are_right : FnScope ["names", "todo", "sort", "value", "parts"] ["names", "todo"] (defScope s_are_right) := ⟨rfl, rfl, rfl, by decide +kernel, rfl, by decide +kernel, by decide +kernel⟩
theorem sc_is_expression : FnScope ["names", "value"] ["names", "value"] (defScope s_is_expression) := ⟨rfl, rfl, rfl, by decide +kernel, rfl, by decide +kernel, by decide +kernel⟩
theorem sc_is_condition : FnScope ["names", "value"] ["names", "value"] (defScope s_is_condition) := ⟨rfl, rfl, rfl, by decide +kernel, rfl, by decide +kernel, by decide +kernel⟩
theorem sc_law_deal : FnScope ["script", "salt", "most", "cells", "cell", "mix"] ["script", "salt"] (defScope s_law_deal) := ⟨rfl, rfl, rfl, by decide +kernel, rfl, by decide +kernel, by decide +kernel⟩
theorem sc_law_any : FnScope ["deal", "bound", "rest"] ["deal", "bound"] (defScope s_law_any) := ⟨rfl, rfl, rfl, by decide +kernel, rfl, by decide +kernel, by decide +kernel⟩
theorem sc_law_of : FnScope ["deal", "some"] ["deal", "some"] (defScope s_law_of) := ⟨rfl, rfl, rfl, by decide +kernel, rfl, by decide +kernel, by decide +kernel⟩
theorem sc_law_is_kind : FnScope ["told", "due"] ["told", "due"] (defScope s_law_is_kind) := ⟨rfl, rfl, rfl, by decide +kernel, rfl, by decide +kernel, by decide +kernel⟩
theorem sc_law_same : FnScope ["told", "due", "todo", "one", "other", "at"] ["told", "due"] (defScope s_law_same) := ⟨rfl, rfl, rfl, by decide +kernel, rfl, by decide +kernel, by decide +kernel⟩
theorem sc_law_all : FnScope ["pairs", "told", "due"] ["pairs"] (defScope s_law_all) := ⟨rfl, rfl, rfl, by decide +kernel, rfl, by decide +kernel, by decide +kernel⟩
theorem sc_law_leaf : FnScope ["deal", "names"] ["deal", "names"] (defScope s_law_leaf) := ⟨rfl, rfl, rfl, by decide +kernel, rfl, by decide +kernel, by decide +kernel⟩
theorem sc_law_sum_of : FnScope ["deal", "names", "joins", "heap", "turn", "one", "other", "made"] ["deal", "names", "joins"] (defScope s_law_sum_of) := ⟨rfl, rfl, rfl, by decide +kernel, rfl, by decide +kernel, by decide +kernel⟩
theorem sc_law_test_of : FnScope ["deal", "names", "joins", "heap", "turn", "test", "one", "other", "made"] ["deal", "names", "joins"] (defScope s_law_test_of) := ⟨rfl, rfl, rfl, by decide +kernel, rfl, by decide +kernel, by decide +kernel⟩
theorem sc_law_places : FnScope ["thing", "found", "todo", "one", "way", "at"] ["thing"] (defScope s_law_places) := ⟨rfl, rfl, rfl, by decide +kernel, rfl, by decide +kernel, by decide +kernel⟩
theorem sc_law_exchanged : FnScope ["thing", "way", "part", "rows", "here", "at", "one"] ["thing", "way", "part"] (defScope s_law_exchanged) := ⟨rfl, rfl, rfl, by decide +kernel, rfl, by decide +kernel, by decide +kernel⟩
theorem sc_law_bad_sums : FnScope ["names", "a", "found"] ["names"] (defScope s_law_bad_sums) := ⟨rfl, rfl, rfl, by decide +kernel, rfl, by decide +kernel, by decide +kernel⟩
theorem sc_law_bad_tests : FnScope ["names", "a", "test", "found"] ["names"] (defScope s_law_bad_tests) := ⟨rfl, rfl, rfl, by decide +kernel, rfl, by decide +kernel, by decide +kernel⟩
theorem sc_law : FnScope ["script", "deal", "pairs", "turn", "names", "thing", "test", "bad", "way", "part", "place", "spots", "one"] ["script"] (defScope s_law) := ⟨rfl, rfl, rfl, by decide +kernel, rfl, by decide +kernel, by decide +kernel⟩
end C
local macro_rules | `(tactic| walk_at "exs") => `(tactic| repeat (first | with_reducible exact G.Ex.refl _ | with_reducible assumption | with_reducible exact G.Nx.b (by with_reducible assumption) | with_reducible exact G.Nx.h (by with_reducible assumption) | (refine G.Ex.trans ?_ (G.Nx.b (by with_reducible assumption)))))
local macro_rules | `(tactic| walk_at "e") => `(tactic| first | with_reducible assumption | exact G.Nx.h (by with_reducible assumption))
local macro_rules | `(tactic| walk_at "d") => `(tactic| first | with_reducible assumption | (refine G.Dp.up (B := ?_) ?_ (by with_reducible assumption); walk_at "exs") | (refine G.Dps.up (B := ?_) ?_ (by with_reducible assumption); walk_at "exs"))
local macro_rules | `(tactic| walk_at "sx2") => `(tactic| first
  | (with_reducible refine G.sx_mod ?h ?_; (case h => first | omega | assumption))
  | (with_reducible refine G.sx_div ?h ?h1 ?_; (case h => first | omega | assumption); (case h1 => first | omega | assumption))
  | (with_reducible refine G.sx_mul64 ?h ?h1 ?_; (case h => omega); (case h1 => omega)))
local macro_rules | `(tactic| walk_at "sx1") => `(tactic| with_reducible (first
  | refine G.sx_seq ?_ | refine G.sx_asg ?_ | refine G.sx_gname ?_ | refine G.sx_drop ?_ | refine G.sx_ret ?_ | refine G.sx_retN ?_ | refine G.sx_ifS ?_ | refine G.sx_next ?_ | refine G.sx_par ?_ | refine G.sx_par2 ?_ | refine G.sx_lcL ?_ | refine G.sx_lcT ?_ | refine G.sx_lcR ?_ | refine G.sx_forL ?_ | refine G.sx_forT ?_ | refine G.sx_forR ?_ | refine G.sx_forR2 ?_ | refine G.sx_sl ?_ | refine G.sx_noPart ?_ | refine G.sx_part ?_ | refine G.sx_isI ?_ | refine G.sx_revL ?_
  | refine G.sx_var rfl ?_ | refine G.sx_c ?_ | refine G.sx_op ?_ | refine G.sx_un ?_ | refine G.sx_I0 ?_ | refine G.sx_U ?_ | refine G.sx_isBV ?_ | refine G.sx_isN ?_ | refine G.sx_notN ?_ | refine G.sx_test ?_ | refine G.sx_tB ?_ | refine G.sx_isB ?_
  | refine G.sx_not ?_ | refine G.sx_and ?_ | refine G.sx_or ?_ | refine G.sx_andV ?_ | refine G.sx_orV ?_ | refine G.sx_notV ?_ | refine G.sx_if ?_ | refine G.sx_nil ?_ | refine G.sx_cons ?_ | refine G.sx_cb ?_ | refine G.sx_call ?_
  | refine G.sx_ixL (G.Mu.sq (by with_reducible assumption)) rfl ?_ | refine G.sx_ixL (by with_reducible assumption) rfl ?_ | refine G.sx_ixT (by with_reducible assumption) rfl ?_
  | refine G.sx_isInt (by walk_at "d") (by walk_at "e") ?_ | refine G.sx_isBool (by walk_at "d") (by walk_at "e") ?_ | refine G.sx_isStr (by walk_at "d") (by walk_at "e") ?_ | refine G.sx_isTup (by walk_at "d") (by walk_at "e") ?_ | refine G.sx_isList (by walk_at "d") (by walk_at "e") ?_ | refine G.sx_isDict (by walk_at "d") (by walk_at "e") ?_
  | refine G.sx_bm0 ?_ | refine G.sx_bm ?_ | refine G.sx_tyL (by with_reducible assumption) ?_ | refine G.sx_tyL (G.Mu.sq (by with_reducible assumption)) ?_ | refine G.sx_gsub ?_ | refine G.sx_GT ?_ | refine G.sx_GD ?_ | refine G.sx_yes ?_ | refine G.sx_tupF ?_ | refine G.sx_revT ?_ | refine G.sx_callK ?_ | refine G.sx_dget ?_ | refine G.sx_tup ?_ | refine G.sx_lst ?_
  | refine G.sx_lenL (by with_reducible assumption) ?_ | refine G.sx_lenL (G.Mu.sq (by with_reducible assumption)) ?_ | refine G.sx_int ?_ | refine G.sx_abs ?_ | refine G.sx_min ?_ | refine G.sx_max ?_ | refine G.sx_eq rfl ?_ | refine G.sx_ne rfl ?_))
local macro_rules | `(tactic| walk_at "sx") => `(tactic| repeat (first | walk_at "sx1" | walk_at "sx2"))
local macro_rules | `(tactic| walk_at "st") => `(tactic| simp only [List.set_cons_zero, List.set_cons_succ, L2.wipe, List.map_cons, List.map_nil])
local macro_rules | `(tactic| walk_at "go") => `(tactic| ((try dsimp only [L2.cxOf, L2.Cx.nox, L2.Cx.wish]); simp only [L2.start, List.map_cons, List.map_nil, List.length_cons, List.length_nil, Nat.zero_add, Nat.reduceAdd, Nat.reduceSub, List.reduceReplicate, List.cons_append, List.nil_append]; walk_at "sx"))
namespace C
open PySem L2 G
section
variable {P : Program} {w : World} {K : PySem.W.Frag} {mg : Str → Option Value} {base : Heap}
/-- _law_any: a number below a bound -/
def spAny : Sp := fun vs H Q _ => ∃ (B : Hp) (d l : Addr) (b : Int), vs = [.ref d, .int b] ∧ Ex B H ∧ Deal B H d l ∧ 0 < b ∧ b < 1073741824 ∧
  ∀ B' H' r, Nx [d, l] B H B' H' → Deal B' H' d l → 0 ≤ r → r < b → Q (.int r) H'
theorem ok_law_any (T : Txt w K mg) : Has P w K mg base "_law_any" s_law_any 1 ["deal", "bound"] spAny := by
  refine has_mk T.d_law_any sc_law_any (fun _ _ _ _ _ _ us hl => match us, hl with | [_, _], _ => rfl) (fun vs H Q E h => ?_) (fun f cdv A outer s H vs Q E hr h => ?_)
  · obtain ⟨_, _, _, _, rfl, _⟩ := h
    rfl
  · obtain ⟨B, d, l, b, rfl, e, hD, b0, b1, k⟩ := h
    refine ⟨_, (G.pss_cut (ps_while PassesOwn.never (PW.pt (pw_and (pt_cmpR op_gt (pe_callB cl_len (by rfl) T.b_len (by decide +kernel) (pa_cons (pe_ix ix_list (pv 0) pe_int (fun _ _ => rfl)) pa_nil)) pe_int (nomark _)) (pw_and1 (pt_cmpR op_eq (pe_ix ix_list (pe_ix ix_list (pv 0) pe_int (fun _ _ => rfl)) (pe_un un_neg pe_int) (fun _ _ => rfl)) pe_int (nomark _)))))
      (pss_one (ps_expr (pe_bm0 PySem.F.plainAttrs_list PySem.F.slot_list_pop PySem.F.type_list_pop mt_pop (pe_ix ix_list (pv 0) pe_int (fun _ _ => rfl))))))
      (pss_cons (ps_if (pt_cmpR op_gt (pe_callB cl_len (by rfl) T.b_len (by decide +kernel) (pa_cons (pe_ix ix_list (pv 0) pe_int (fun _ _ => rfl)) pa_nil)) pe_int (nomark _))
      (pss_cons (ps_set (i := 2) sc_law_any.nd rfl (.inl rfl) (pe_callTy cl_int (by rfl) T.b_int (by decide +kernel) (pa_cons (pe_bm0 PySem.F.plainAttrs_list PySem.F.slot_list_pop PySem.F.type_list_pop mt_pop (pe_ix ix_list (pv 0) pe_int (fun _ _ => rfl))) pa_nil)))
      (pss_cons (ps_expr (pe_bm PySem.F.plainAttrs_list PySem.F.slot_list_append PySem.F.type_list_append mt_append (pe_ix ix_list (pv 0) pe_int (fun _ _ => rfl)) (pa_cons (pe_op op_fdiv (pv 2) (pv 1)) pa_nil)))
      (pss_one (ps_ret (pe_op op_mod (pv 2) (pv 1))))))
      pss_nil)
      (pss_cons (ps_asg (pe_op op_mod (pe_callTy cl_int (by rfl) T.b_int (by decide +kernel) (pa_cons (pe_op op_add (pe_op op_mulW (pe_ix ix_list (pv 0) pe_int (fun _ _ => rfl)) pe_int) pe_int) pa_nil)) pe_int) (pg_sub (pv 0) pe_int set_list))
      (pss_one (ps_ret (pe_op op_mod (pe_callTy cl_int (by rfl) T.b_int (by decide +kernel) (pa_cons (pe_op op_fdiv (pe_ix ix_list (pv 0) pe_int (fun _ _ => rfl)) pe_int) pa_nil)) (pv 1))))))), ?_⟩
    have hne := hD.ne
    walk_at "go"
    refine G.sx_cut (fun σ H' => ∃ (B' : Hp) (cs : List Int) (mix : Int), σ = [some (.ref d), some (.int b), none] ∧ Nx [d, l] B H B' H' ∧ Mu B' H' d [.ref l, .int mix] ∧ Mu B' H' l (cs.map V.int) ∧ (∀ c ∈ cs, 0 ≤ c ∧ c < big) ∧ cs.length ≤ 63 ∧ 0 ≤ mix ∧ mix < 2147483647) ?_ ?_
    · refine ⟨fun m σ H' => ∃ (B' : Hp) (cs : List Int) (mix : Int), m = cs.length ∧ σ = [some (.ref d), some (.int b), none] ∧ Nx [d, l] B H B' H' ∧ Mu B' H' d [.ref l, .int mix] ∧ Mu B' H' l (cs.map V.int) ∧ (∀ c ∈ cs, 0 ≤ c ∧ c < big) ∧ cs.length ≤ 63 ∧ 0 ≤ mix ∧ mix < 2147483647, ?_, ?_⟩
      · obtain ⟨cs, mix, m1, m2, r1, r2, r3, r4⟩ := hD
        exact ⟨_, B, cs, mix, rfl, rfl, Nx.refl e, m1, m2, r1, r2, r3, r4⟩
      · rintro m σ H1 ⟨B1, cs, mix, rfl, rfl, n1, m1, m2, r1, r2, r3, r4⟩
        walk_at "sx"
        by_cases hz : cs = []
        · refine ifF (dF (by rw [hz]; simp)) ?_
          exact ⟨B1, cs, mix, rfl, n1, m1, m2, r1, r2, r3, r4⟩
        · obtain ⟨r, z, rfl⟩ := snoc_of hz
          have hin : ∀ a ∈ [d, l], H a ≠ none → H1 a ≠ none := fun a ha _ => (⟨_, _, m1, m2, r1, r2, r3, r4⟩ : Deal B1 H1 d l).in a ha
          refine ifT (dT (by simp)) ?_
          walk_at "sx"
          rw [List.map_append] at m2
          refine sx_ixL m2.sq atI_end ?_
          walk_at "sx"
          by_cases h0 : z = 0
          · refine ifT (int_eqT h0) ?_
            refine ⟨_, fun _ _ h => h, ?_⟩
            walk_at "sx"
            refine sx_pop m2 n1.h fun H2 n2 m2' => ?_
            refine ⟨r.length, by simp, B1, r, mix, rfl, rfl, n1.trans (n2.wk (by simp)) hin, m1.up n2 (by simp [hne]), by simpa using m2', fun c hc => r1 c (by simp [hc]), by simp at r2; omega, r3, r4⟩
          · refine ifF (int_eqF h0) ?_
            exact ⟨B1, r ++ [z], mix, rfl, n1, m1, by rw [List.map_append]; exact m2, r1, r2, r3, r4⟩
    · rintro σ H1 ⟨B1, cs, mix, rfl, n1, m1, m2, r1, r2, r3, r4⟩
      have hin : ∀ a ∈ [d, l], H a ≠ none → H1 a ≠ none := fun a ha _ => (⟨_, _, m1, m2, r1, r2, r3, r4⟩ : Deal B1 H1 d l).in a ha
      walk_at "sx"
      by_cases hz : cs = []
      · refine ifF (dF (by rw [hz]; simp)) ?_
        walk_at "sx"
        refine sx_setL m1 n1.h rfl fun H2 n2 m1' => ?_
        walk_at "sx"
        refine k B1 H2 _ (n1.trans (n2.wk (by simp)) hin) ⟨cs, _, m1', m2.up n2 (by simp [hne.symm]), r1, r2, ?_, ?_⟩ (Int.emod_nonneg _ (by omega)) (Int.emod_lt_of_pos _ b0)
        · exact Int.emod_nonneg _ (by omega)
        · exact Int.emod_lt_of_pos _ (by omega)
      · obtain ⟨r, z, rfl⟩ := snoc_of hz
        have z0 := r1 z (by simp)
        refine ifT (dT (by simp)) ?_
        rw [List.map_append] at m2
        walk_at "sx"
        refine sx_pop m2 n1.h fun H2 n2 m2' => ?_
        have m1' := m1.up n2 (by simp [hne])
        walk_at "sx"
        refine sx_append m2' n2.h (by simp at r2 ⊢; omega) fun H3 n3 m2'' => ?_
        have m1'' := m1'.up n3 (by simp [hne])
        walk_at "sx"
        refine k B1 H3 _ ((n1.trans (n2.wk (by simp)) hin).trans (n3.wk (by simp)) ?_) ⟨r ++ [z / b], mix, m1'', ?_, ?_, ?_, r3, r4⟩ (Int.emod_nonneg _ (by omega)) (Int.emod_lt_of_pos _ b0)
        · intro a ha _
          simp only [List.mem_cons, List.not_mem_nil, or_false] at ha
          rcases ha with rfl | rfl
          · rw [m1'.h]; exact fun z => nomatch z
          · rw [m2'.h]; exact fun z => nomatch z
        · rw [List.map_append]
          exact m2''
        · intro c hc
          rcases List.mem_append.mp hc with h | h
          · exact r1 c (by simp [h])
          · rw [List.mem_singleton] at h
            subst h
            exact ⟨Int.ediv_nonneg z0.1 (by omega), Int.lt_of_le_of_lt (Int.ediv_le_self b z0.1) z0.2⟩
        · simp at r2 ⊢
          omega
end
end C
namespace C
open PySem L2 G
section
variable {P : Program} {w : World} {K : PySem.W.Frag} {mg : Str → Option Value} {base : Heap}
/-- _law_of: one of some things -/
def spOf (K : PySem.W.Frag) : Sp := fun vs H Q _ => ∃ (B : Hp) (d l a : Addr) (xs : List V), vs = [.ref d, .ref a] ∧ Ex B H ∧ Deal B H d l ∧ SqL K H a xs ∧ a ≠ d ∧ a ≠ l ∧ 0 < xs.length ∧ xs.length < 100000 ∧
  ∀ B' H' (i : Nat) v, Nx [d, l] B H B' H' → Deal B' H' d l → xs[i]? = some v → Q v H'
theorem ok_law_of (T : Txt w K mg) : Has P w K mg base "_law_of" s_law_of 2 ["deal", "some"] (spOf K) := by
  refine has_mk T.d_law_of sc_law_of (fun _ _ _ _ _ _ us hl => match us, hl with | [_, _], _ => rfl) (fun vs H Q E h => ?_) (fun f cdv A outer s H vs Q E hr h => ?_)
  · obtain ⟨_, _, _, _, _, rfl, _⟩ := h
    rfl
  · obtain ⟨B, d, l, a, xs, rfl, e, hD, hS, ad, al, x0, x1, k⟩ := h
    refine ⟨_, (pss_one (ps_ret (pe_ix ix_list (pv 1) (pe_callH (ok_law_any T) hr (by rfl) (pa_cons (pv 0) (pa_cons (pe_callB cl_len (by rfl) T.b_len (by decide +kernel) (pa_cons (pv 1) pa_nil)) pa_nil))) (fun _ _ => rfl)))), ?_⟩
    walk_at "go"
    refine ⟨B, d, l, _, rfl, e, hD, by omega, by omega, fun B1 H1 r n1 D1 r0 r1 => ?_⟩
    obtain ⟨i, rfl⟩ : ∃ i : Nat, r = (i : Int) := ⟨r.toNat, by omega⟩
    have hi : i < xs.length := by omega
    refine sx_ixL (n1.sq hS (by simp [ad, al])) (atI_nat (List.getElem?_eq_getElem hi)) ?_
    exact k B1 H1 i _ n1 D1 (List.getElem?_eq_getElem hi)
end
end C
namespace C
open PySem L2 G
section
variable {P : Program} {w : World} {K : PySem.W.Frag} {mg : Str → Option Value} {base : Heap}
/-- _law_deal: where draws come from -/
def spDeal (K : PySem.W.Frag) : Sp := fun vs H Q _ => ∃ (B : Hp) (a : Addr) (ns : List Int) (z : Int), vs = [.ref a, .int z] ∧ Ex B H ∧ SqL K H a (ns.map V.int) ∧ ns.length ≤ 63 ∧ 0 ≤ z ∧ z < 100000 ∧
  ∀ B' H' d l, Nx [] B H B' H' → Deal B' H' d l → Q (.ref d) H'
theorem pow64 : (10 : Int) ^ (64 : Int).toNat = 10 ^ 64 := rfl
theorem big_eq : (10 : Int) ^ 64 * 10 ^ 64 * 10 ^ 64 * 10 ^ 64 * 10 ^ 64 * 10 ^ 64 = big := by decide +kernel
def cell1 (v : V) : V := match v with
  | .int i => .int ((if i < 0 then -i else i) % big)
  | v => v
def cellOk (v : V) : Bool := match v with
  | .int i => decide (10 ^ 18 ≤ i)
  | _ => false
theorem ok_law_deal (T : Txt w K mg) : Has P w K mg base "_law_deal" s_law_deal 1 ["script", "salt"] (spDeal K) := by
  refine has_mk T.d_law_deal sc_law_deal (fun _ _ _ _ _ _ us hl => match us, hl with | [_, _], _ => rfl) (fun vs H Q E h => ?_) (fun f cdv A outer s H vs Q E hr h => ?_)
  · obtain ⟨_, _, _, _, rfl, _⟩ := h
    rfl
  · obtain ⟨B, a, ns, z, rfl, e, hS, hlen, z0, z1, k⟩ := h
    refine ⟨_, (pss_cons (ps_set (i := 2) sc_law_deal.nd rfl (.inr rfl) (pe_op op_mulW (pe_op op_mulW (pe_op op_mulW (pe_op op_mulW (pe_op op_mulW (pe_op op_pow pe_int pe_int) (pe_op op_pow pe_int pe_int)) (pe_op op_pow pe_int pe_int)) (pe_op op_pow pe_int pe_int)) (pe_op op_pow pe_int pe_int)) (pe_op op_pow pe_int pe_int)))
      (pss_cons (ps_setLc (i := 3) (own := [("cell", 4)]) (g := (gName 4)) rfl sc_law_deal.nd rfl rfl (sw_true rfl rfl rfl (by decide +kernel)) (pi_list (pe_slice sl_list (pv 0) po_none (po_some pe_int))) (blkOk_by (own := [("cell", 4)]) (N := ["script", "salt", "most", "cells", "cell", "mix"]) (sc := defScope s_law_deal) (by decide +kernel)) (fun _ _ _ _ _ => pg_name (i := 4) sc_law_deal.nd rfl (.inl rfl)) (fun _ _ _ _ _ => pts_nil) (fun _ _ _ _ _ => (pe_op op_mod (pe_callTy cl_int (by rfl) T.b_int (by decide +kernel) (pa_cons (pe_callB cl_abs (by rfl) T.b_abs (by decide +kernel) (pa_cons (pe_callTy cl_int (by rfl) T.b_int (by decide +kernel) (pa_cons (pv 4) pa_nil)) pa_nil)) pa_nil)) (pv 2))))
      (pss_cons (ps_set (i := 5) sc_law_deal.nd rfl (.inl rfl) (pe_op op_add pe_int (pe_op op_mulW pe_int (pv 1))))
      (pss_cons (ps_for PassesOwn.never rfl (pi_list (pv 3)) (pg_name (i := 4) sc_law_deal.nd rfl (.inl rfl))
      (pss_one (ps_set (i := 5) sc_law_deal.nd rfl (.inl rfl) (pe_op op_mod (pe_callTy cl_int (by rfl) T.b_int (by decide +kernel) (pa_cons (pe_op op_add (pe_op op_add (pe_op op_mulW (pv 5) pe_int) (pe_op op_mod (pe_callTy cl_int (by rfl) T.b_int (by decide +kernel) (pa_cons (pv 4) pa_nil)) pe_int)) pe_int) pa_nil)) pe_int))))
      (pss_one (ps_ret (pe_lst (pa_cons (pe_revL (pe_lc (own := [("cell", 4)]) (g := (gName 4)) rfl sc_law_deal.nd (pi_list (pv 3)) (blkOk_by (own := [("cell", 4)]) (N := ["script", "salt", "most", "cells", "cell", "mix"]) (sc := defScope s_law_deal) (by decide +kernel)) (fun _ _ _ _ _ => pg_name (i := 4) sc_law_deal.nd rfl (.inl rfl)) (fun _ _ _ _ _ => (pts_one (pt_cmpR op_ge (pv 4) (pe_op op_pow pe_int pe_int) (nomark _)))) (fun _ _ _ _ _ => (pv 4)))) (pa_cons (pv 5) pa_nil))))))))), ?_⟩
    walk_at "go"
    refine sx_pow (by decide) (by decide) (by decide) ?_
    walk_at "sx"
    refine sx_pow (by decide) (by decide) (by decide) ?_
    refine sx_mulW (a := 213) (b := 213) (by decide +kernel) (by decide +kernel) (by decide) (by decide) (by decide) ?_
    walk_at "sx"
    refine sx_pow (by decide) (by decide) (by decide) ?_
    refine sx_mulW (a := 426) (b := 213) (by decide +kernel) (by decide +kernel) (by decide) (by decide) (by decide) ?_
    walk_at "sx"
    refine sx_pow (by decide) (by decide) (by decide) ?_
    refine sx_mulW (a := 639) (b := 213) (by decide +kernel) (by decide +kernel) (by decide) (by decide) (by decide) ?_
    walk_at "sx"
    refine sx_pow (by decide) (by decide) (by decide) ?_
    refine sx_mulW (a := 852) (b := 213) (by decide +kernel) (by decide +kernel) (by decide) (by decide) (by decide) ?_
    walk_at "sx"
    refine sx_pow (by decide) (by decide) (by decide) ?_
    refine sx_mulW (a := 1065) (b := 213) (by decide +kernel) (by decide +kernel) (by decide) (by decide) (by decide) ?_
    rw [pow64, big_eq]
    walk_at "sx"
    refine sx_slL e hS fun p1 H1 hp1 n1 m1 => ?_
    rw [show (63 : Int) = ((63 : Nat) : Int) from rfl, cut_to, List.take_of_length_le (by simpa using hlen)] at m1
    refine sx_lcPure (fun _ => true) cell1 n1.h m1.sq (by simp; omega) (fun x => by simp [wipe]) (fun x _ H2 R e2 h => h) (fun x hx _ H2 R e2 h => ?_) fun p2 H2 hp2 n2 m2 => ?_
    · obtain ⟨i, _, rfl⟩ := List.mem_map.mp hx
      walk_at "st"
      walk_at "sx"
      refine sx_mod (by decide +kernel) ?_
      exact h
    rw [List.filter_eq_self.mpr (fun _ _ => rfl), List.map_map] at m2
    walk_at "sx"
    walk_at "st"
    obtain ⟨cs, hcs⟩ : ∃ cs : List Int, cs = ns.map (fun i => (if i < 0 then -i else i) % big) := ⟨_, rfl⟩
    have mc : ns.map (cell1 ∘ V.int) = cs.map V.int := by rw [hcs, List.map_map]; rfl
    have hc : ∀ c ∈ cs, 0 ≤ c ∧ c < big := fun c hc => by
      rw [hcs] at hc
      obtain ⟨i, _, rfl⟩ := List.mem_map.mp hc
      exact ⟨Int.emod_nonneg _ (by decide +kernel), Int.emod_lt_of_pos _ (by decide +kernel)⟩
    have hcl : cs.length ≤ 63 := by rw [hcs, List.length_map]; exact hlen
    rw [mc] at m2
    refine sx_forL_by m2.sq (fun i σ H' => H' = H2 ∧ ∃ mix y, 0 ≤ mix ∧ mix < 2147483647 ∧ σ = [some (.ref a), some (.int z), some (.int big), some (.ref p2), y, some (.int mix)]) ⟨rfl, _, _, by omega, by omega, rfl⟩ (fun i σ H' _ p => by rw [p.1]; exact m2.sq) (fun i x σ H' hx p => ?_) (fun σ H' p => ?_)
    · obtain ⟨rfl, mix, y, x0, x1, rfl⟩ := p
      obtain ⟨c, hc1, rfl⟩ := List.mem_map.mp (List.mem_of_getElem? hx)
      have := hc c hc1
      walk_at "sx"
      exact ⟨rfl, _, _, Int.emod_nonneg _ (by omega), Int.emod_lt_of_pos _ (by omega), rfl⟩
    · obtain ⟨rfl, mix, y, x0, x1, rfl⟩ := p
      walk_at "sx"
      refine sx_lcPure cellOk id n2.h m2.sq (by simp; omega) (fun x => by simp [wipe]) (fun x hx H3 R e3 h => ?_) (fun x hx _ H3 R e3 h => ?_) fun p3 H3 hp3 n3 m3 => ?_
      · obtain ⟨i, _, rfl⟩ := List.mem_map.mp hx
        walk_at "st"
        walk_at "sx"
        refine sx_pow (by decide) (by decide) (by decide) ?_
        walk_at "sx"
        exact h
      · walk_at "st"
        walk_at "sx"
        exact h
      rw [List.map_id] at m3
      refine sx_revL2 n3.h m3.sq fun p4 H4 hp4 n4 m4 => ?_
      walk_at "sx"
      refine sx_newM n4.h (by simp) fun p5 H5 hp5 n5 m5 => ?_
      obtain ⟨es, hes, h1, h2⟩ : ∃ es : List Int, ((cs.map V.int).filter cellOk).reverse = es.map V.int ∧ (∀ c ∈ es, c ∈ cs) ∧ es.length ≤ cs.length := by
        refine ⟨(cs.filter fun c => decide (10 ^ 18 ≤ c)).reverse, ?_, fun c hc => ?_, ?_⟩
        · rw [List.filter_map, List.map_reverse]
          rfl
        · rw [List.mem_reverse, List.mem_filter] at hc
          exact hc.1
        · rw [List.length_reverse]
          exact List.length_filter_le _ _
      rw [hes] at m4
      exact k B H5 p5 p4 ((((n1.tr n2).tr n3).tr n4).tr n5) ⟨es, mix, m5, m4.up n5, fun c h => hc c (h1 c h), by omega, x0, x1⟩
end
end C
namespace C
open PySem L2 G
section
variable {P : Program} {w : World} {K : PySem.W.Frag} {mg : Str → Option Value} {base : Heap}
/-- _law_is_kind: asked of like things -/
def spKind (K : PySem.W.Frag) : Sp := fun vs H Q _ => ∃ (B : Hp) (x y : V) (d : PyData), vs = [x, y] ∧ Ex B H ∧ Dp K B x d ∧ Dp K B y d ∧ flatD d = true ∧ (∀ ds, d ≠ .tuple ds) ∧
  ∀ B' H', Nx [] B H B' H' → Q (.bl true) H'
theorem ok_law_is_kind (T : Txt w K mg) : Has P w K mg base "_law_is_kind" s_law_is_kind 1 ["told", "due"] (spKind K) := by
  refine has_mk T.d_law_is_kind sc_law_is_kind (fun _ _ _ _ _ _ us hl => match us, hl with | [_, _], _ => rfl) (fun vs H Q E h => ?_) (fun f cdv A outer s H vs Q E hr h => ?_)
  · obtain ⟨_, _, _, _, rfl, _⟩ := h
    rfl
  · obtain ⟨B, x, y, d, rfl, e, hx, hy, hf, ht, k⟩ := h
    refine ⟨_, (pss_cons (ps_if (pt_cmpR op_isN1 (pv 1) pe_non (nomark _))
      (pss_one (ps_ret (pe_cmpR op_isN1 (pv 0) pe_non (nomark _))))
      pss_nil)
      (pss_cons (ps_if (PW.pt (pw_or (pt_cmpR op_isBV (pv 1) pe_bl (nomark _)) (pw_or1 (pt_cmpR op_isBV (pv 1) pe_bl (nomark _)))))
      (pss_one (ps_ret (pe_ifExp (pt_val (pv 1)) (pe_cmpR op_isBV (pv 0) pe_bl (nomark _)) (pe_cmpR op_isBV (pv 0) pe_bl (nomark _)))))
      pss_nil)
      (pss_cons (ps_if (pt_val (pe_callB call_isi (by rfl) T.b_isinstance (by decide +kernel) (pa_cons (pv 1) (pa_cons (pe_bT (n := "str") (by rfl) T.b_str (by decide +kernel)) pa_nil))))
      (pss_one (ps_ret (pe_and (pe_callB call_isi (by rfl) T.b_isinstance (by decide +kernel) (pa_cons (pv 0) (pa_cons (pe_bT (n := "str") (by rfl) T.b_str (by decide +kernel)) pa_nil))) (pe_one (pe_cmpR op_eq (pv 0) (pv 1) (nomark _))))))
      pss_nil)
      (pss_one (ps_ret (pe_and (pe_callB call_isi (by rfl) T.b_isinstance (by decide +kernel) (pa_cons (pv 0) (pa_cons (pe_bT (n := "int") (by rfl) T.b_int (by decide +kernel)) pa_nil))) (pe_and (pe_not (pe_callB call_isi (by rfl) T.b_isinstance (by decide +kernel) (pa_cons (pv 0) (pa_cons (pe_bT (n := "bool") (by rfl) T.b_bool (by decide +kernel)) pa_nil)))) (pe_one (pe_cmpR op_eq (pv 0) (pv 1) (nomark _)))))))))), ?_⟩
    walk_at "go"
    cases d with
    | none =>
      cases Dp.none_v hx
      cases Dp.none_v hy
      refine ifT (by decide) ?_
      walk_at "sx"
      exact k B H (Nx.refl e)
    | bool b =>
      cases Dp.bool_v hx
      cases Dp.bool_v hy
      refine ifF (by simp) ?_
      walk_at "sx"
      cases b with
      | true =>
        refine ifT (by decide) ?_
        refine ifT (by decide) ?_
        walk_at "sx"
        refine ifT (by decide) ?_
        walk_at "sx"
        exact k B H (Nx.refl e)
      | false =>
        refine ifF (by decide) ?_
        walk_at "sx"
        refine ifT (by decide) ?_
        walk_at "sx"
        refine ifF (by decide) ?_
        walk_at "sx"
        exact k B H (Nx.refl e)
    | int i =>
      have ex := Dp.int_v hx
      have ey := Dp.int_v hy
      subst ex ey
      refine ifF (by simp) ?_
      walk_at "sx"
      refine ifF (by simp) ?_
      walk_at "sx"
      refine ifF (by simp) ?_
      walk_at "sx"
      refine ifF rfl ?_
      walk_at "sx"
      refine ifT rfl ?_
      walk_at "sx"
      refine ifT rfl ?_
      walk_at "sx"
      rw [int_eqT rfl]
      exact k B H (Nx.refl e)
    | str z =>
      have ex := Dp.str_v hx
      have ey := Dp.str_v hy
      subst ex ey
      refine ifF (by simp) ?_
      walk_at "sx"
      refine ifF (by simp) ?_
      walk_at "sx"
      refine ifF (by simp) ?_
      walk_at "sx"
      refine ifT rfl ?_
      walk_at "sx"
      refine ifT rfl ?_
      walk_at "sx"
      rw [str_eqT rfl]
      exact k B H (Nx.refl e)
    | list ds => simp [flatD] at hf
    | tuple ds => exact absurd rfl (ht ds)
    | dict ds => simp [flatD] at hf
end
end C
namespace C
open PySem L2 G
section
variable {P : Program} {w : World} {K : PySem.W.Frag} {mg : Str → Option Value} {base : Heap}
/-- _law_same: asked of like things -/
def spSame (K : PySem.W.Frag) : Sp := fun vs H Q _ => ∃ (B : Hp) (x y : V) (d : PyData), vs = [x, y] ∧ Ex B H ∧ Dp K B x d ∧ Dp K B y d ∧ flatD d = true ∧ szD d ≤ 50000 ∧
  ∀ B' H', Nx [] B H B' H' → Q (.bl true) H'
theorem ok_law_same (T : Txt w K mg) : Has P w K mg base "_law_same" s_law_same 2 ["told", "due"] (spSame K) := by
  refine has_mk T.d_law_same sc_law_same (fun _ _ _ _ _ _ us hl => match us, hl with | [_, _], _ => rfl) (fun vs H Q E h => ?_) (fun f cdv A outer s H vs Q E hr h => ?_)
  · obtain ⟨_, _, _, _, rfl, _⟩ := h
    rfl
  · obtain ⟨B, x, y, d, rfl, e, hx, hy, hf, hz, k⟩ := h
    refine ⟨_, (pss_cons (ps_set (i := 2) sc_law_same.nd rfl (.inl rfl) (pe_lst (pa_cons (pe_tup (pa_cons (pv 0) (pa_cons (pv 1) pa_nil))) pa_nil)))
      (G.pss_cut (ps_while PassesOwn.never (pt_cmpR op_gt (pe_callB cl_len (by rfl) T.b_len (by decide +kernel) (pa_cons (pv 2) pa_nil)) pe_int (nomark _))
      (pss_cons (ps_asg (pe_bm0 PySem.F.plainAttrs_list PySem.F.slot_list_pop PySem.F.type_list_pop mt_pop (pv 2)) (pg_tup (by rfl) (pgs_cons (pg_name (i := 3) sc_law_same.nd rfl (.inl rfl)) (pgs_cons (pg_name (i := 4) sc_law_same.nd rfl (.inl rfl)) pgs_nil))))
      (pss_one (ps_if (pt_val (pe_callB call_isi (by rfl) T.b_isinstance (by decide +kernel) (pa_cons (pv 4) (pa_cons (pe_bT (n := "tuple") (by rfl) T.b_tuple (by decide +kernel)) pa_nil))))
      (pss_cons (ps_if (PW.pt (pw_or (pt_not (pt_val (pe_callB call_isi (by rfl) T.b_isinstance (by decide +kernel) (pa_cons (pv 3) (pa_cons (pe_bT (n := "tuple") (by rfl) T.b_tuple (by decide +kernel)) pa_nil))))) (pw_or1 (pt_cmpR op_ne (pe_callB cl_len (by rfl) T.b_len (by decide +kernel) (pa_cons (pv 3) pa_nil)) (pe_callB cl_len (by rfl) T.b_len (by decide +kernel) (pa_cons (pv 4) pa_nil)) (nomark _)))))
      (pss_one (ps_ret pe_bl))
      pss_nil)
      (pss_one (ps_for PassesOwn.never rfl (pi_range1 (by rfl) T.b_range (pa_cons (pe_callB cl_len (by rfl) T.b_len (by decide +kernel) (pa_cons (pv 4) pa_nil)) pa_nil)) (pg_name (i := 5) sc_law_same.nd rfl (.inl rfl))
      (pss_one (ps_expr (pe_bm PySem.F.plainAttrs_list PySem.F.slot_list_append PySem.F.type_list_append mt_append (pv 2) (pa_cons (pe_tup (pa_cons (pe_ix ix_tup (pv 3) (pv 5) (fun _ _ => rfl)) (pa_cons (pe_ix ix_tup (pv 4) (pv 5) (fun _ _ => rfl)) pa_nil))) pa_nil)))))))
      (pss_one (ps_if (PW.pt (pw_or (pt_val (pe_callB call_isiT (by rfl) T.b_isinstance (by decide +kernel) (pa_cons (pv 3) (pa_cons (pe_tup (pa_cons (pe_bT (n := "tuple") (by rfl) T.b_tuple (by decide +kernel)) (pa_cons (pe_bT (n := "list") (by rfl) T.b_list (by decide +kernel)) (pa_cons (pe_bT (n := "dict") (by rfl) T.b_dict (by decide +kernel)) pa_nil)))) pa_nil)))) (pw_or1 (pt_not (pt_val (pe_callH (ok_law_is_kind T) hr (by rfl) (pa_cons (pv 3) (pa_cons (pv 4) pa_nil))))))))
      (pss_one (ps_ret pe_bl))
      pss_nil))))))
      (pss_one (ps_ret pe_bl)))), ?_⟩
    walk_at "go"
    refine sx_newT e (.cons hx (.cons hy .nil)) (by simp) fun p1 B1 H1 hp1 n1 d1 => ?_
    walk_at "sx"
    refine sx_newM n1.h (by simp) fun L H2 hL n2 mL => ?_
    have hL0 : H L = none := n1.ex.free hL
    walk_at "sx"
    walk_at "st"
    refine G.sx_cut (fun σ H' => ∃ B', Nx [] B H B' H') ?_ ?_
    · refine ⟨fun m σ H' => ∃ (B' : Hp) (xs : List V) (ds : List PyData) (y3 y4 y5 : Option V), m = szDs ds ∧ σ = [some x, some y, some (.ref L), y3, y4, y5] ∧ Nx [] B H B' H' ∧ Mu B' H' L xs ∧ DpAll K B' xs (ds.map fun d => .tuple [d, d]) ∧ flatDs ds = true ∧ szDs ds ≤ 50000, ?_, ?_⟩
      · exact ⟨_, B1, [.ref p1], [d], none, none, none, rfl, rfl, n1.tr n2, mL, .cons d1 .nil, by simp [flatDs, hf], by simp [szDs]; omega⟩
      · rintro m σ H3 ⟨B3, xs, ds, y3, y4, y5, rfl, rfl, n3, m3, hd3, hf3, hz3⟩
        have hlen := Dps.len hd3
        rw [List.length_map] at hlen
        have hsz := szDs_len ds
        walk_at "sx"
        by_cases he : ds = []
        · subst he
          refine ifF (dF (by rw [hlen]; simp)) ?_
          exact ⟨B3, n3⟩
        · obtain ⟨r, t, rfl⟩ := snoc_of he
          refine ifT (dT (by rw [hlen]; simp)) ?_
          refine ⟨_, fun _ _ h => h, ?_⟩
          rw [List.map_append, List.map_singleton] at hd3
          obtain ⟨us, v, rfl, hus, hv⟩ := Dps.last hd3
          rw [flatDs_app] at hf3
          rw [szDs_app] at hz3
          obtain ⟨hfr, hft⟩ := Bool.and_eq_true_iff.mp hf3
          have hft : flatD t = true := by simpa [flatDs] using hft
          have hst : szDs [t] = szD t := by simp [szDs]
          walk_at "sx"
          refine sx_pop m3 n3.h fun H4 n4 m4 => ?_
          have n34 : Nx [] B H B3 H4 := n3.loc n4 (by simp [hL0])
          refine sx_gtup2 hv n4.h fun v1 v2 e1 e2 => ?_
          walk_at "sx"
          walk_at "st"
          by_cases ht : isTup t = true
          · refine ifT ht ?_
            obtain ⟨ts, rfl⟩ : ∃ ts, t = .tuple ts := by
              cases t with
              | tuple ts => exact ⟨ts, rfl⟩
              | _ => simp [isTup] at ht
            have hsts : szD (.tuple ts) = szDs ts + 1 := by simp [szD]
            have hts := szDs_len ts
            have hfts : flatDs ts = true := by simpa [flatD] using hft
            walk_at "sx"
            refine ifF rfl ?_
            walk_at "sx"
            refine sx_lenTd e1 n4.h ?_
            walk_at "sx"
            refine sx_lenTd e2 n4.h ?_
            walk_at "sx"
            refine ifF (by simp) ?_
            walk_at "sx"
            refine sx_lenTd e2 n4.h ?_
            walk_at "sx"
            refine sx_forR_by (by omega) (fun i σ H' => ∃ (B' : Hp) (xs : List V) (y5 : Option V), σ = [some x, some y, some (.ref L), some v1, some v2, y5] ∧ Nx [] B H B' H' ∧ Ex B3 B' ∧ Mu B' H' L xs ∧ DpAll K B' xs ((r ++ ts.take i).map fun d => .tuple [d, d])) ⟨B3, us, _, rfl, n34, Ex.refl _, m4, by simpa using hus⟩ (fun i σ H5 hi p => ?_) (fun σ H5 p => ?_)
            · obtain ⟨B5, xs, y5, rfl, n5, e5, m5, d5⟩ := p
              have hl5 := Dps.len d5
              rw [List.length_map, List.length_append, List.length_take] at hl5
              have hlr := szDs_len r
              walk_at "sx"
              refine sx_ixTd (Dp.up e5 e1) n5.h (atI_nat (List.getElem?_eq_getElem hi)) fun w1 f1 => ?_
              walk_at "sx"
              refine sx_ixTd (Dp.up e5 e2) n5.h (atI_nat (List.getElem?_eq_getElem hi)) fun w2 f2 => ?_
              walk_at "sx"
              refine sx_newT n5.h (.cons f1 (.cons f2 .nil)) (by simp) fun p6 B6 H6 hp6 n6 d6 => ?_
              walk_at "sx"
              refine sx_append (m5.up n6) n6.h (by omega) fun H7 n7 m7 => ?_
              refine ⟨B6, _, _, rfl, (n5.tr n6).loc n7 (by simp [hL0]), e5.trans n6.b, m7, ?_⟩
              rw [List.take_add_one, List.getElem?_eq_getElem hi, ← List.append_assoc, List.map_append]
              exact Dps.app (Dps.up n6.b d5) (.cons d6 .nil)
            · obtain ⟨B5, xs, y5, rfl, n5, e5, m5, d5⟩ := p
              rw [List.take_of_length_le (Nat.le_refl _)] at d5
              refine ⟨szDs (r ++ ts), ?_, B5, xs, r ++ ts, _, _, _, rfl, rfl, n5, m5, d5, ?_, ?_⟩
              · rw [szDs_app, szDs_app, hst, hsts]
                omega
              · rw [flatDs_app, hfr, hfts]
                rfl
              · rw [szDs_app]
                omega
          · have hnt : isTup t = false := by simpa using ht
            refine ifF hnt ?_
            walk_at "sx"
            refine sx_newTp n4.h (by simp) fun p5 H5 hp5 n5 t5 => ?_
            walk_at "sx"
            refine sx_isiT3 e1 n5.h t5 ?_
            walk_at "sx"
            refine ifF ?_ ?_
            · cases t <;> simp_all [isTup, isList, isDict, flatD]
            walk_at "sx"
            refine ⟨B3, v1, v2, t, rfl, n5.h, e1, e2, hft, fun ds z => by subst z; exact ht rfl, fun B6 H6 n6 => ?_⟩
            walk_at "sx"
            refine ifF rfl ?_
            walk_at "sx"
            refine ⟨szDs r, ?_, B6, us, r, _, _, _, rfl, rfl, (n34.tr n5).tr n6, (m4.up n5).up n6, Dps.up n6.b hus, hfr, by omega⟩
            have := szD_pos t
            rw [szDs_app, hst]
            omega
    · rintro σ H' ⟨B', n'⟩
      walk_at "sx"
      exact k B' H' n'
end
end C
namespace C
open PySem L2 G
section
variable {P : Program} {w : World} {K : PySem.W.Frag} {mg : Str → Option Value} {base : Heap}
/-- what each pair of answers is -/
structure PairOk (K : PySem.W.Frag) (B : Hp) (v : V) : Prop where
  ex : ∃ (p : Addr) (a b : V) (d : PyData), v = .ref p ∧ SqT K B p [a, b] ∧ Dp K B a d ∧ Dp K B b d ∧ flatD d = true ∧ szD d ≤ 50000
theorem PairOk.up {B B' : Hp} {v : V} (h : PairOk K B v) (e : Ex B B') : PairOk K B' v := by
  obtain ⟨p, a, b, d, rfl, h1, h2, h3, h4⟩ := h
  exact ⟨p, a, b, d, rfl, e.t h1, Dp.up e h2, Dp.up e h3, h4⟩
/-- _law_all: asked of like pairs -/
def spAll (K : PySem.W.Frag) : Sp := fun vs H Q _ => ∃ (B : Hp) (a : Addr) (xs : List V), vs = [.ref a] ∧ Ex B H ∧ SqL K H a xs ∧ xs.length ≤ 50000 ∧ (∀ x ∈ xs, PairOk K B x) ∧
  ∀ H', Q (.bl true) H'
theorem ok_law_all (T : Txt w K mg) : Has P w K mg base "_law_all" s_law_all 3 ["pairs"] (spAll K) := by
  refine has_mk T.d_law_all sc_law_all (fun _ _ _ _ _ _ us hl => match us, hl with | [_], _ => rfl) (fun vs H Q E h => ?_) (fun f cdv A outer s H vs Q E hr h => ?_)
  · obtain ⟨_, _, _, rfl, _⟩ := h
    rfl
  · obtain ⟨B, a, xs, rfl, e, hS, hz, hp, k⟩ := h
    refine ⟨_, (pss_one (ps_ret (pe_cmpR op_eq (pe_callB cl_len (by rfl) T.b_len (by decide +kernel) (pa_cons (pe_lc (own := [("told", 1), ("due", 2)]) (g := (gTup K 2 (gCons (gName 1) (gCons (gName 2) gNil)))) rfl sc_law_all.nd (pi_list (pv 0)) (blkOk_by (own := [("told", 1), ("due", 2)]) (N := ["pairs", "told", "due"]) (sc := defScope s_law_all) (by decide +kernel)) (fun _ _ _ _ _ => (pg_tup (by rfl) (pgs_cons (pg_name (i := 1) sc_law_all.nd rfl (.inl rfl)) (pgs_cons (pg_name (i := 2) sc_law_all.nd rfl (.inl rfl)) pgs_nil)))) (fun _ _ _ _ _ => (pts_one (pt_not (pt_val (pe_callH (ok_law_same T) hr (by rfl) (pa_cons (pv 1) (pa_cons (pv 2) pa_nil))))))) (fun _ _ _ _ _ => (pv 1))) pa_nil)) pe_int (nomark _)))), ?_⟩
    walk_at "go"
    walk_at "st"
    refine sx_lcL_by hS (fun L i H' => ∃ B', Nx [] B H B' H' ∧ H L = none ∧ Mu B' H' L []) (fun L hL => ⟨B, Nx.own e hL, hL, Mu.new e hL⟩) (fun L i H' _ p => by obtain ⟨B', n, _⟩ := p; exact n.sq hS (by simp)) (fun L i x H' hx p => ?_) (fun L H' p => ?_)
    · obtain ⟨B', n, hL, m⟩ := p
      obtain ⟨q, v1, v2, d, rfl, h1, h2, h3, h4, h5⟩ := (hp x (List.mem_of_getElem? hx)).up n.b
      refine sx_gtup2 (d1 := d) (d2 := d) (.tup h1 (.cons h2 (.cons h3 .nil))) n.h fun w1 w2 e1 e2 => ?_
      walk_at "sx"
      walk_at "st"
      refine ⟨trivial, ?_⟩
      walk_at "sx"
      refine ⟨B', w1, w2, d, rfl, n.h, e1, e2, h4, h5, fun B2 H2 n2 => ?_⟩
      walk_at "sx"
      refine ifF rfl ?_
      exact ⟨B2, n.tr n2, hL, m.up n2⟩
    · obtain ⟨B', n, hL, m⟩ := p
      walk_at "sx"
      exact k H'
end
end C
namespace C
open PySem L2 G
section
variable {P : Program} {w : World} {K : PySem.W.Frag} {mg : Str → Option Value} {base : Heap}
/-! ### what is an expression: by the data -/
def isIntg (d : PyData) : Bool := isInt d && !isBool d
def isPos (d : PyData) : Bool := match d with
  | .int i => decide (0 < i)
  | _ => false
def wordFirst (d : PyData) : Bool := match d with
  | .tuple (.str _ :: _) => true
  | _ => false
def plainP (names : List Str) (w : Str) (ds : List PyData) : Option (List PyData) := match ds with
  | [x] => if w = "number" then (if isIntg x then some [] else none) else (match x with
    | .str z => if z ∈ names then some [] else none
    | _ => none)
  | _ => none
def srt (s : Str) (d : PyData) : PyData := .tuple [.str s, d]
def two (ds : List PyData) (f : PyData → PyData → Option (List PyData)) : Option (List PyData) := match ds with
  | [x, y] => f x y
  | _ => none
theorem two_no {ds : List PyData} {f : PyData → PyData → Option (List PyData)} (h : ds.length ≠ 2) : two ds f = none := by
  match ds, h with
  | [], _ => rfl
  | [_], _ => rfl
  | [_, _], h => exact absurd rfl h
  | _ :: _ :: _ :: _, _ => rfl
theorem len2 {ds : List PyData} (h : ds.length = 2) : ∃ x y, ds = [x, y] := by
  match ds, h with
  | [x, y], _ => exact ⟨x, y, rfl⟩
def one (ds : List PyData) (f : PyData → Option (List PyData)) : Option (List PyData) := match ds with
  | [x] => f x
  | _ => none
theorem one_no {ds : List PyData} {f : PyData → Option (List PyData)} (h : ds.length ≠ 1) : one ds f = none := by
  match ds, h with
  | [], _ => rfl
  | [_], h => exact absurd rfl h
  | _ :: _ :: _, _ => rfl
theorem len1 {ds : List PyData} (h : ds.length = 1) : ∃ x, ds = [x] := by
  match ds, h with
  | [x], _ => exact ⟨x, rfl⟩
def exprP (names : List Str) (w : Str) (ds : List PyData) : Option (List PyData) :=
  if w ∈ (["number", "field"] : List Str) then plainP names w ds
  else if w ∈ (["plus", "less", "times", "min", "max"] : List Str) then two ds fun x y => some [srt "expression" x, srt "expression" y]
  else if w ∈ (["div", "rest"] : List Str) then two ds fun x y => if isPos y then some [srt "expression" x] else none
  else none
def condP (w : Str) (ds : List PyData) : Option (List PyData) :=
  if w = "not" then one ds fun x => some [srt "condition" x]
  else if w ∈ (["same", "below", "and", "or"] : List Str) then two ds fun x y => if w ∈ (["same", "below"] : List Str) then some [srt "expression" x, srt "expression" y] else some [srt "condition" x, srt "condition" y]
  else none
/-- names: a tuple of texts -/
def spBl1 (K : PySem.W.Frag) (f : PyData → Bool) : Sp := fun vs H Q _ => ∃ (B : Hp) (x : V) (d : PyData), vs = [x] ∧ Ex B H ∧ Dp K B x d ∧ ∀ B' H', Nx [] B H B' H' → Q (.bl (f d)) H'
theorem ok_is_integer (T : Txt w K mg) : Has P w K mg base "is_integer" s_is_integer 1 ["value"] (spBl1 K isIntg) := by
  refine has_mk T.d_is_integer sc_is_integer (fun _ _ _ _ _ _ us hl => match us, hl with | [_], _ => rfl) (fun vs H Q E h => ?_) (fun f cdv A outer s H vs Q E hr h => ?_)
  · obtain ⟨_, _, _, rfl, _⟩ := h
    rfl
  · obtain ⟨B, x, d, rfl, e, hx, k⟩ := h
    refine ⟨_, (pss_one (ps_ret (pe_and (pe_callB call_isi (by rfl) T.b_isinstance (by decide +kernel) (pa_cons (pv 0) (pa_cons (pe_bT (n := "int") (by rfl) T.b_int (by decide +kernel)) pa_nil))) (pe_one (pe_not (pe_callB call_isi (by rfl) T.b_isinstance (by decide +kernel) (pa_cons (pv 0) (pa_cons (pe_bT (n := "bool") (by rfl) T.b_bool (by decide +kernel)) pa_nil)))))))), ?_⟩
    walk_at "go"
    have k := k B H (Nx.refl e)
    unfold isIntg at k
    cases h1 : isInt d with
    | true =>
      rw [h1] at k
      refine ifT rfl ?_
      walk_at "sx"
      exact k
    | false =>
      rw [h1] at k
      refine ifF rfl ?_
      exact k
theorem ok_is_positive (T : Txt w K mg) : Has P w K mg base "is_positive" s_is_positive 2 ["value"] (spBl1 K isPos) := by
  refine has_mk T.d_is_positive sc_is_positive (fun _ _ _ _ _ _ us hl => match us, hl with | [_], _ => rfl) (fun vs H Q E h => ?_) (fun f cdv A outer s H vs Q E hr h => ?_)
  · obtain ⟨_, _, _, rfl, _⟩ := h
    rfl
  · obtain ⟨B, x, d, rfl, e, hx, k⟩ := h
    refine ⟨_, (pss_one (ps_ret (pe_and (pe_callH (ok_is_integer T) hr (by rfl) (pa_cons (pv 0) pa_nil)) (pe_one (pe_cmpR op_gt (pv 0) pe_int (nomark _)))))), ?_⟩
    walk_at "go"
    refine ⟨B, x, d, rfl, e, hx, fun B1 H1 n1 => ?_⟩
    walk_at "sx"
    have k := k B1 H1 n1
    cases d with
    | int i =>
      cases Dp.int_v hx
      refine ifT rfl ?_
      walk_at "sx"
      exact k
    | _ =>
      refine ifF rfl ?_
      exact k
theorem ok_is_word_first (T : Txt w K mg) : Has P w K mg base "is_word_first" s_is_word_first 1 ["value"] (spBl1 K wordFirst) := by
  refine has_mk T.d_is_word_first sc_is_word_first (fun _ _ _ _ _ _ us hl => match us, hl with | [_], _ => rfl) (fun vs H Q E h => ?_) (fun f cdv A outer s H vs Q E hr h => ?_)
  · obtain ⟨_, _, _, rfl, _⟩ := h
    rfl
  · obtain ⟨B, x, d, rfl, e, hx, k⟩ := h
    refine ⟨_, (pss_one (ps_ret (pe_and (pe_callB call_isi (by rfl) T.b_isinstance (by decide +kernel) (pa_cons (pv 0) (pa_cons (pe_bT (n := "tuple") (by rfl) T.b_tuple (by decide +kernel)) pa_nil))) (pe_and (pe_cmpR (op_neNilT hr.units) (pv 0) (pe_tup pa_nil) (nomark _)) (pe_one (pe_callB call_isi (by rfl) T.b_isinstance (by decide +kernel) (pa_cons (pe_ix ix_tup (pv 0) pe_int (fun _ _ => rfl)) (pa_cons (pe_bT (n := "str") (by rfl) T.b_str (by decide +kernel)) pa_nil)))))))), ?_⟩
    walk_at "go"
    cases d with
    | tuple ds =>
      refine ifT rfl ?_
      walk_at "sx"
      refine sx_newTp e (by simp) fun p H1 hp n1 t1 => ?_
      refine sx_neTd hx n1.h t1 ?_
      walk_at "sx"
      cases ds with
      | nil =>
        refine ifF rfl ?_
        exact k B H1 n1
      | cons d0 r =>
        refine ifT rfl ?_
        walk_at "sx"
        refine sx_ixTd hx n1.h at0 fun v hv => ?_
        walk_at "sx"
        have k := k B H1 n1
        cases d0 <;> exact k
    | _ =>
      refine ifF rfl ?_
      exact k B H (Nx.refl e)

/-- a list of data, or None -/
def OptL (K : PySem.W.Frag) (B H : Hp) (o : Option (List PyData)) (Q : VK) : Prop := match o with
  | none => ∀ B' H', Nx [] B H B' H' → Q .non H'
  | some ds => ∀ B' H' p xs, Nx [] B H B' H' → H p = none → Mu B' H' p xs → DpAll K B' xs ds → Q (.ref p) H'
def spPlain (K : PySem.W.Frag) : Sp := fun vs H Q _ => ∃ (B : Hp) (a : Addr) (ns : List Str) (x : V) (w : Str) (ds : List PyData), vs = [.ref a, x] ∧ Ex B H ∧ SqT K B a (ns.map V.str) ∧ Dp K B x (.tuple (.str w :: ds)) ∧ w ∈ (["number", "field"] : List Str) ∧ OptL K B H (plainP ns w ds) Q
theorem ok_plain_parts (T : Txt w K mg) : Has P w K mg base "plain_parts" s_plain_parts 2 ["names", "value"] (spPlain K) := by
  refine has_mk T.d_plain_parts sc_plain_parts (fun _ _ _ _ _ _ us hl => match us, hl with | [_, _], _ => rfl) (fun vs H Q E h => ?_) (fun f cdv A outer s H vs Q E hr h => ?_)
  · obtain ⟨_, _, _, _, _, _, rfl, _⟩ := h
    rfl
  · obtain ⟨B, a, ns, x, w, ds, rfl, e, hS, hx, hw, k⟩ := h
    refine ⟨_, (pss_cons (ps_if (pt_cmpR op_ne (pe_callB cl_len (by rfl) T.b_len (by decide +kernel) (pa_cons (pv 1) pa_nil)) pe_int (nomark _))
      (pss_one (ps_ret pe_non))
      pss_nil)
      (pss_cons (ps_if (pt_cmpR op_eq (pe_ix ix_tup (pv 1) pe_int (fun _ _ => rfl)) (pe_gS (by rfl) T.g_NUMBER) (nomark _))
      (pss_one (ps_ret (pe_ifExp (pt_val (pe_callH (ok_is_integer T) hr (by rfl) (pa_cons (pe_ix ix_tup (pv 1) pe_int (fun _ _ => rfl)) pa_nil))) (pe_lst pa_nil) pe_non)))
      pss_nil)
      (pss_one (ps_ret (pe_ifExp (PW.pt (pw_and (pt_val (pe_callB call_isi (by rfl) T.b_isinstance (by decide +kernel) (pa_cons (pe_ix ix_tup (pv 1) pe_int (fun _ _ => rfl)) (pa_cons (pe_bT (n := "str") (by rfl) T.b_str (by decide +kernel)) pa_nil)))) (pw_and1 (pt_cmpR op_in_seq (pe_ix ix_tup (pv 1) pe_int (fun _ _ => rfl)) (pv 0) (by rfl))))) (pe_lst pa_nil) pe_non))))), ?_⟩
    have kn : ∀ B' H', plainP ns w ds = none → Nx [] B H B' H' → Q .non H' := fun B' H' z n => by
      rw [z] at k
      exact k B' H' n
    have ks : ∀ B' H' p, plainP ns w ds = some [] → Nx [] B H B' H' → H p = none → Mu B' H' p [] → Q (.ref p) H' := fun B' H' p z n hp m => by
      rw [z] at k
      exact k B' H' p [] n hp m .nil
    walk_at "go"
    refine sx_lenTd hx e ?_
    walk_at "sx"
    by_cases h1 : ds.length = 1
    · obtain ⟨d, rfl⟩ := List.length_eq_one_iff.mp h1
      refine ifF (by rw [int_eqT (by simp)]; rfl) ?_
      walk_at "sx"
      refine sx_ixTd hx e at0 fun v hv => ?_
      cases Dp.str_v hv
      walk_at "sx"
      by_cases h2 : w = "number"
      · refine ifT (str_eqT h2) ?_
        walk_at "sx"
        refine sx_ixTd hx e at1 fun v hv => ?_
        walk_at "sx"
        refine ⟨B, v, d, rfl, e, hv, fun B1 H1 n1 => ?_⟩
        walk_at "sx"
        cases h3 : isIntg d with
        | true =>
          refine ifT rfl ?_
          walk_at "sx"
          refine sx_newM n1.h (by simp) fun p H2 hp n2 m2 => ?_
          exact ks B1 H2 p (by simp [plainP, h2, h3]) (n1.tr n2) (n1.ex.free hp) m2
        | false =>
          refine ifF rfl ?_
          walk_at "sx"
          exact kn B1 H1 (by simp [plainP, h2, h3]) n1
      · refine ifF (str_eqF h2) ?_
        walk_at "sx"
        refine sx_ixTd hx e at1 fun v hv => ?_
        walk_at "sx"
        cases d with
        | str z =>
          cases Dp.str_v hv
          refine ifT rfl ?_
          walk_at "sx"
          refine sx_ixTd hx e at1 fun v hv => ?_
          cases Dp.str_v hv
          walk_at "sx"
          refine sx_inTs ns (e.t hS) ?_
          walk_at "sx"
          by_cases h4 : z ∈ ns
          · refine ifT (dT h4) ?_
            walk_at "sx"
            refine sx_newM e (by simp) fun p H2 hp n2 m2 => ?_
            exact ks B H2 p (by simp [plainP, h2, h4]) n2 hp m2
          · refine ifF (dF h4) ?_
            walk_at "sx"
            exact kn B H (by simp [plainP, h2, h4]) (Nx.refl e)
        | _ =>
          refine ifF rfl ?_
          refine ifF rfl ?_
          walk_at "sx"
          exact kn B H (by simp [plainP, h2]) (Nx.refl e)
    · refine ifT (by rw [int_eqF (by simp; omega)]; rfl) ?_
      walk_at "sx"
      refine kn B H ?_ (Nx.refl e)
      cases ds with
      | nil => rfl
      | cons y r =>
        cases r with
        | nil => simp at h1
        | cons z t => rfl
end
end C
namespace C
open PySem L2 G
section
variable {P : Program} {w : World} {K : PySem.W.Frag} {mg : Str → Option Value} {base : Heap}
def spParts (K : PySem.W.Frag) : Sp := fun vs H Q _ => ∃ (B : Hp) (a : Addr) (ns : List Str) (x : V) (w : Str) (ds : List PyData), vs = [.ref a, x] ∧ Ex B H ∧ SqT K B a (ns.map V.str) ∧ Dp K B x (.tuple (.str w :: ds)) ∧ OptL K B H (exprP ns w ds) Q
theorem ok_expression_parts (T : Txt w K mg) : Has P w K mg base "expression_parts" s_expression_parts 3 ["names", "value"] (spParts K) := by
  refine has_mk T.d_expression_parts sc_expression_parts (fun _ _ _ _ _ _ us hl => match us, hl with | [_, _], _ => rfl) (fun vs H Q E h => ?_) (fun f cdv A outer s H vs Q E hr h => ?_)
  · obtain ⟨_, _, _, _, _, _, rfl, _⟩ := h
    rfl
  · obtain ⟨B, a, ns, x, w, ds, rfl, e, hS, hx, k⟩ := h
    refine ⟨_, (pss_cons (ps_set (i := 2) sc_expression_parts.nd rfl (.inl rfl) (pe_ix ix_tup (pv 1) pe_int (fun _ _ => rfl)))
      (pss_cons (ps_if (pt_cmpR op_in_seq (pv 2) (pe_tup (pa_cons (pe_gS (by rfl) T.g_NUMBER) (pa_cons (pe_gS (by rfl) T.g_FIELD) pa_nil))) (by rfl))
      (pss_one (ps_ret (pe_callH (ok_plain_parts T) hr (by rfl) (pa_cons (pv 0) (pa_cons (pv 1) pa_nil)))))
      pss_nil)
      (pss_cons (ps_if (pt_cmpR op_in_seq (pv 2) (pe_gR (by rfl) T.g_PAIRED) (by rfl))
      (pss_one (ps_ret (pe_ifExp (pt_cmpR op_eq (pe_callB cl_len (by rfl) T.b_len (by decide +kernel) (pa_cons (pv 1) pa_nil)) pe_int (nomark _)) (pe_lst (pa_cons (pe_tup (pa_cons (pe_gS (by rfl) T.g_EXPRESSION) (pa_cons (pe_ix ix_tup (pv 1) pe_int (fun _ _ => rfl)) pa_nil))) (pa_cons (pe_tup (pa_cons (pe_gS (by rfl) T.g_EXPRESSION) (pa_cons (pe_ix ix_tup (pv 1) pe_int (fun _ _ => rfl)) pa_nil))) pa_nil))) pe_non)))
      pss_nil)
      (pss_cons (ps_if (PW.pt (pw_and (pt_cmpR op_in_seq (pv 2) (pe_gR (by rfl) T.g_CUT) (by rfl)) (pw_and (pt_cmpR op_eq (pe_callB cl_len (by rfl) T.b_len (by decide +kernel) (pa_cons (pv 1) pa_nil)) pe_int (nomark _)) (pw_and1 (pt_val (pe_callH (ok_is_positive T) hr (by rfl) (pa_cons (pe_ix ix_tup (pv 1) pe_int (fun _ _ => rfl)) pa_nil)))))))
      (pss_one (ps_ret (pe_lst (pa_cons (pe_tup (pa_cons (pe_gS (by rfl) T.g_EXPRESSION) (pa_cons (pe_ix ix_tup (pv 1) pe_int (fun _ _ => rfl)) pa_nil))) pa_nil))))
      pss_nil)
      (pss_one (ps_ret pe_non)))))), ?_⟩
    walk_at "go"
    refine sx_ixTd hx e at0 fun v hv => ?_
    cases Dp.str_v hv
    walk_at "sx"
    refine sx_newTp e (by simp) fun p1 H1 hp1 n1 t1 => ?_
    refine sx_inTs ["number", "field"] (SqT.of t1) ?_
    walk_at "sx"
    by_cases h1 : w ∈ (["number", "field"] : List Str)
    · refine ifT (dT h1) ?_
      walk_at "sx"
      refine ⟨B, a, ns, x, w, ds, rfl, n1.h, hS, hx, h1, ?_⟩
      have e1 : exprP ns w ds = plainP ns w ds := by unfold exprP; rw [if_pos h1]
      rw [e1] at k
      cases ep : plainP ns w ds with
      | none =>
        rw [ep] at k
        exact fun B2 H2 n2 => k B2 H2 (n1.tr n2)
      | some es =>
        rw [ep] at k
        exact fun B2 H2 p xs n2 hp m d => k B2 H2 p xs (n1.tr n2) (n1.ex.free hp) m d
    · refine ifF (dF h1) ?_
      walk_at "sx"
      intro a2 t2
      refine sx_inTs ["plus", "less", "times", "min", "max"] (t2 _) ?_
      walk_at "sx"
      by_cases h2 : w ∈ (["plus", "less", "times", "min", "max"] : List Str)
      · refine ifT (dT h2) ?_
        walk_at "sx"
        refine sx_lenTd hx n1.h ?_
        walk_at "sx"
        have e1 : exprP ns w ds = two ds fun x y => some [srt "expression" x, srt "expression" y] := by unfold exprP; rw [if_neg h1, if_pos h2]
        by_cases h3 : ds.length = 2
        · obtain ⟨d1, d2, rfl⟩ := len2 h3
          refine ifT (int_eqT (by simp)) ?_
          walk_at "sx"
          refine sx_ixTd hx n1.h at1 fun v1 hv1 => ?_
          walk_at "sx"
          refine sx_newT n1.h (.cons (.str _) (.cons hv1 .nil)) (by simp) fun p3 B3 H3 hp3 n3 t3 => ?_
          walk_at "sx"
          refine sx_ixTd hx (n1.h.trans n3.ex) at2 fun v2 hv2 => ?_
          walk_at "sx"
          refine sx_newT n3.h (.cons (.str _) (.cons (Dp.up n3.b hv2) .nil)) (by simp) fun p4 B4 H4 hp4 n4 t4 => ?_
          walk_at "sx"
          refine sx_newM n4.h (by simp) fun p5 H5 hp5 n5 m5 => ?_
          rw [e1] at k
          exact k B4 H5 p5 _ (((n1.tr n3).tr n4).tr n5) ((n1.ex.trans (n3.ex.trans n4.ex)).free hp5) m5 (.cons (Dp.up n4.b t3) (.cons t4 .nil))
        · refine ifF (int_eqF (by simp; omega)) ?_
          walk_at "sx"
          rw [e1, two_no h3] at k
          exact k B H1 n1
      · refine ifF (dF h2) ?_
        walk_at "sx"
        intro a3 t3
        refine sx_inTs ["div", "rest"] (t3 _) ?_
        walk_at "sx"
        by_cases h3 : w ∈ (["div", "rest"] : List Str)
        · have e1 : exprP ns w ds = two ds fun x y => if isPos y then some [srt "expression" x] else none := by unfold exprP; rw [if_neg h1, if_neg h2, if_pos h3]
          rw [e1] at k
          refine ifT (dT h3) ?_
          walk_at "sx"
          refine sx_lenTd hx n1.h ?_
          walk_at "sx"
          by_cases h4 : ds.length = 2
          · obtain ⟨d1, d2, rfl⟩ := len2 h4
            refine ifT (int_eqT (by simp)) ?_
            walk_at "sx"
            refine sx_ixTd hx n1.h at2 fun v2 hv2 => ?_
            walk_at "sx"
            refine ⟨B, v2, d2, rfl, n1.h, hv2, fun B2 H2 n2 => ?_⟩
            walk_at "sx"
            cases h5 : isPos d2 with
            | true =>
              refine ifT rfl ?_
              walk_at "sx"
              refine sx_ixTd hx (n1.h.trans n2.ex) at1 fun v1 hv1 => ?_
              walk_at "sx"
              refine sx_newT n2.h (.cons (.str _) (.cons (Dp.up n2.b hv1) .nil)) (by simp) fun p3 B3 H3 hp3 n3 t3 => ?_
              walk_at "sx"
              refine sx_newM n3.h (by simp) fun p5 H5 hp5 n5 m5 => ?_
              have k : OptL K B H (if isPos d2 then some [srt "expression" d1] else none) Q := k
              rw [if_pos h5] at k
              exact k B3 H5 p5 _ (((n1.tr n2).tr n3).tr n5) ((n1.ex.trans (n2.ex.trans n3.ex)).free hp5) m5 (.cons t3 .nil)
            | false =>
              refine ifF rfl ?_
              walk_at "sx"
              have k : OptL K B H (if isPos d2 then some [srt "expression" d1] else none) Q := k
              rw [if_neg (by rw [h5]; exact Bool.false_ne_true)] at k
              exact k B2 H2 (n1.tr n2)
          · refine ifF (int_eqF (by simp; omega)) ?_
            refine ifF rfl ?_
            walk_at "sx"
            rw [two_no h4] at k
            exact k B H1 n1
        · have e1 : exprP ns w ds = none := by unfold exprP; rw [if_neg h1, if_neg h2, if_neg h3]
          rw [e1] at k
          refine ifF (dF h3) ?_
          refine ifF rfl ?_
          walk_at "sx"
          exact k B H1 n1
end
end C
namespace C
open PySem L2 G
section
variable {P : Program} {w : World} {K : PySem.W.Frag} {mg : Str → Option Value} {base : Heap}
def spCond (K : PySem.W.Frag) : Sp := fun vs H Q _ => ∃ (B : Hp) (x : V) (w : Str) (ds : List PyData), vs = [x] ∧ Ex B H ∧ Dp K B x (.tuple (.str w :: ds)) ∧ OptL K B H (condP w ds) Q
theorem ok_condition_parts (T : Txt w K mg) : Has P w K mg base "condition_parts" s_condition_parts 3 ["value"] (spCond K) := by
  refine has_mk T.d_condition_parts sc_condition_parts (fun _ _ _ _ _ _ us hl => match us, hl with | [_], _ => rfl) (fun vs H Q E h => ?_) (fun f cdv A outer s H vs Q E hr h => ?_)
  · obtain ⟨_, _, _, _, rfl, _⟩ := h
    rfl
  · obtain ⟨B, x, w, ds, rfl, e, hx, k⟩ := h
    refine ⟨_, (pss_cons (ps_set (i := 1) sc_condition_parts.nd rfl (.inl rfl) (pe_ix ix_tup (pv 0) pe_int (fun _ _ => rfl)))
      (pss_cons (ps_if (pt_cmpR op_eq (pv 1) (pe_gS (by rfl) T.g_NOT) (nomark _))
      (pss_one (ps_ret (pe_ifExp (pt_cmpR op_eq (pe_callB cl_len (by rfl) T.b_len (by decide +kernel) (pa_cons (pv 0) pa_nil)) pe_int (nomark _)) (pe_lst (pa_cons (pe_tup (pa_cons (pe_gS (by rfl) T.g_CONDITION) (pa_cons (pe_ix ix_tup (pv 0) pe_int (fun _ _ => rfl)) pa_nil))) pa_nil)) pe_non)))
      pss_nil)
      (pss_cons (ps_if (PW.pt (pw_and (pt_cmpR op_in_seq (pv 1) (pe_op op_catT (pe_gR (by rfl) T.g_COMPARED) (pe_gR (by rfl) T.g_JOINED)) (by rfl)) (pw_and1 (pt_cmpR op_eq (pe_callB cl_len (by rfl) T.b_len (by decide +kernel) (pa_cons (pv 0) pa_nil)) pe_int (nomark _)))))
      (pss_cons (ps_set (i := 2) sc_condition_parts.nd rfl (.inl rfl) (pe_ifExp (pt_cmpR op_in_seq (pv 1) (pe_gR (by rfl) T.g_COMPARED) (by rfl)) (pe_gS (by rfl) T.g_EXPRESSION) (pe_gS (by rfl) T.g_CONDITION)))
      (pss_one (ps_ret (pe_lst (pa_cons (pe_tup (pa_cons (pv 2) (pa_cons (pe_ix ix_tup (pv 0) pe_int (fun _ _ => rfl)) pa_nil))) (pa_cons (pe_tup (pa_cons (pv 2) (pa_cons (pe_ix ix_tup (pv 0) pe_int (fun _ _ => rfl)) pa_nil))) pa_nil))))))
      pss_nil)
      (pss_one (ps_ret pe_non))))), ?_⟩
    walk_at "go"
    refine sx_ixTd hx e at0 fun v hv => ?_
    cases Dp.str_v hv
    walk_at "sx"
    by_cases h1 : w = "not"
    · have e1 : condP w ds = one ds fun x => some [srt "condition" x] := by unfold condP; rw [if_pos h1]
      rw [e1] at k
      refine ifT (str_eqT h1) ?_
      walk_at "sx"
      refine sx_lenTd hx e ?_
      walk_at "sx"
      by_cases h3 : ds.length = 1
      · obtain ⟨d, rfl⟩ := len1 h3
        refine ifT (int_eqT (by simp)) ?_
        walk_at "sx"
        refine sx_ixTd hx e at1 fun v1 hv1 => ?_
        walk_at "sx"
        refine sx_newT e (.cons (.str _) (.cons hv1 .nil)) (by simp) fun p3 B3 H3 hp3 n3 t3 => ?_
        walk_at "sx"
        refine sx_newM n3.h (by simp) fun p5 H5 hp5 n5 m5 => ?_
        exact k B3 H5 p5 _ (n3.tr n5) (n3.ex.free hp5) m5 (.cons t3 .nil)
      · refine ifF (int_eqF (by simp; omega)) ?_
        walk_at "sx"
        rw [one_no h3] at k
        exact k B H (Nx.refl e)
    · have e1 : condP w ds = if w ∈ (["same", "below", "and", "or"] : List Str) then two ds fun x y => if w ∈ (["same", "below"] : List Str) then some [srt "expression" x, srt "expression" y] else some [srt "condition" x, srt "condition" y] else none := by unfold condP; rw [if_neg h1]
      rw [e1] at k
      refine ifF (str_eqF h1) ?_
      walk_at "sx"
      intro a1 t1
      walk_at "sx"
      intro a2 t2
      refine sx_catT e (t1 _) (t2 _) (by simp) (by simp) (by simp) fun p1 H1 hp1 n1 t3 => ?_
      refine sx_inTs ["same", "below", "and", "or"] (SqT.of t3) ?_
      walk_at "sx"
      by_cases h2 : w ∈ (["same", "below", "and", "or"] : List Str)
      · rw [if_pos h2] at k
        refine ifT (dT h2) ?_
        walk_at "sx"
        refine sx_lenTd hx n1.h ?_
        walk_at "sx"
        by_cases h3 : ds.length = 2
        · obtain ⟨d1, d2, rfl⟩ := len2 h3
          refine ifT (int_eqT (by simp)) ?_
          have fin : ∀ z : Str, OptL K B H (some [srt z d1, srt z d2]) Q → ∀ (σ : L2.St) D, D.rt = Q → σ[0]? = some (some x) → σ[2]? = some (some (.str z)) → tRet (tLst (tCons (tTup (tCons (tVar 2) (tCons (tOp (rIxT K) (tVar 0) (tC (.int 1))) tNil))) (tCons (tTup (tCons (tVar 2) (tCons (tOp (rIxT K) (tVar 0) (tC (.int 2))) tNil))) tNil))) D σ H1 := by
            intro z kz σ D hD h0 h2
            walk_at "sx"
            refine sx_var h2 ?_
            walk_at "sx"
            refine sx_var h0 ?_
            walk_at "sx"
            refine sx_ixTd hx n1.h at1 fun v1 hv1 => ?_
            walk_at "sx"
            refine sx_newT n1.h (.cons (.str _) (.cons hv1 .nil)) (by simp) fun p3 B3 H3 hp3 n3 t3 => ?_
            walk_at "sx"
            refine sx_var h2 ?_
            walk_at "sx"
            refine sx_var h0 ?_
            walk_at "sx"
            refine sx_ixTd hx (n1.h.trans n3.ex) at2 fun v2 hv2 => ?_
            walk_at "sx"
            refine sx_newT n3.h (.cons (.str _) (.cons (Dp.up n3.b hv2) .nil)) (by simp) fun p4 B4 H4 hp4 n4 t4 => ?_
            walk_at "sx"
            refine sx_newM n4.h (by simp) fun p5 H5 hp5 n5 m5 => ?_
            rw [hD]
            exact kz B4 H5 p5 _ (((n1.tr n3).tr n4).tr n5) ((n1.ex.trans (n3.ex.trans n4.ex)).free hp5) m5 (.cons (Dp.up n4.b t3) (.cons t4 .nil))
          walk_at "sx"
          intro a4 t4
          refine sx_inTs ["same", "below"] (t4 _) ?_
          walk_at "sx"
          have k : OptL K B H (if w ∈ (["same", "below"] : List Str) then some [srt "expression" d1, srt "expression" d2] else some [srt "condition" d1, srt "condition" d2]) Q := k
          by_cases h5 : w ∈ (["same", "below"] : List Str)
          · rw [if_pos h5] at k
            refine ifT (dT h5) ?_
            refine G.sx_c ?_
            refine G.sx_gname ?_
            exact fin _ k _ _ rfl rfl rfl
          · rw [if_neg h5] at k
            refine ifF (dF h5) ?_
            refine G.sx_c ?_
            refine G.sx_gname ?_
            exact fin _ k _ _ rfl rfl rfl
        · refine ifF (int_eqF (by simp; omega)) ?_
          walk_at "sx"
          rw [two_no h3] at k
          exact k B H1 n1
      · rw [if_neg h2] at k
        refine ifF (dF h2) ?_
        refine ifF rfl ?_
        walk_at "sx"
        exact k B H1 n1
/-! ### whether data are right, each by its sort -/
def partsP (ns : List Str) (s w : Str) (ds : List PyData) : Option (List PyData) := if s = "expression" then exprP ns w ds else condP w ds
def right (ns : List Str) : Nat → PyData → Bool
  | 0, _ => false
  | n + 1, q => match q with
    | .tuple [.str s, .tuple (.str w :: ds)] => (match partsP ns s w ds with
      | none => false
      | some ps => ps.all (right ns n))
    | _ => false
/-- parts: pairs of a sort and of one of the things -/
def wS : List PyData → Nat
  | [] => 0
  | q :: r => (szD q - 2) + wS r
theorem wS_app : ∀ a b : List PyData, wS (a ++ b) = wS a + wS b
  | [], b => by simp [wS]
  | x :: r, b => by
    show (szD x - 2) + wS (r ++ b) = (szD x - 2) + wS r + wS b
    rw [wS_app r b]
    omega
def Parts (ds : List PyData) (ps : List PyData) : Prop := (wS ps ≤ szDs ds ∧ ps.length ≤ 2) ∧ ∀ p ∈ ps, ∃ s d, p = srt s d ∧ szD d ≤ szDs ds
theorem szD_srt (s : Str) (d : PyData) : szD (srt s d) = szD d + 2 := by
  simp [srt, szD, szDs]
  omega
theorem parts_ok {ns : List Str} {s w : Str} {ds ps : List PyData} (h : partsP ns s w ds = some ps) : Parts ds ps := by
  have two_c : ∀ {f : PyData → PyData → Option (List PyData)}, two ds f = some ps → ∃ x y, ds = [x, y] ∧ f x y = some ps := by
    intro f h
    by_cases z : ds.length = 2
    · obtain ⟨x, y, rfl⟩ := len2 z
      exact ⟨x, y, rfl, h⟩
    · rw [two_no z] at h
      cases h
  unfold partsP at h
  split at h
  · unfold exprP at h
    split at h
    · unfold plainP at h
      have : ps = [] := by
        split at h
        · split at h
          · split at h <;> simp_all
          · split at h
            · split at h <;> simp_all
            · cases h
        · cases h
      subst this
      exact ⟨⟨Nat.zero_le _, Nat.zero_le _⟩, fun p hp => absurd hp (by simp)⟩
    · split at h
      · obtain ⟨x, y, rfl, e⟩ := two_c h
        have e := Option.some.inj e
        subst e
        refine ⟨⟨by simp [szDs, wS, szD_srt], by simp⟩, fun p hp => ?_⟩
        simp only [List.mem_cons, List.not_mem_nil, or_false] at hp
        rcases hp with rfl | rfl
        · exact ⟨_, x, rfl, by simp [szDs]⟩
        · exact ⟨_, y, rfl, by simp [szDs]⟩
      · split at h
        · obtain ⟨x, y, rfl, e⟩ := two_c h
          split at e
          · have e := Option.some.inj e
            subst e
            refine ⟨⟨by simp [szDs, wS, szD_srt], by simp⟩, fun p hp => ?_⟩
            simp only [List.mem_cons, List.not_mem_nil, or_false] at hp
            subst hp
            exact ⟨_, x, rfl, by simp [szDs]⟩
          · cases e
        · cases h
  · unfold condP at h
    split at h
    · by_cases z : ds.length = 1
      · obtain ⟨x, rfl⟩ := len1 z
        have e := Option.some.inj h
        subst e
        refine ⟨⟨by simp [szDs, wS, szD_srt], by simp⟩, fun p hp => ?_⟩
        simp only [List.mem_cons, List.not_mem_nil, or_false] at hp
        subst hp
        exact ⟨_, x, rfl, by simp [szDs]⟩
      · rw [one_no z] at h
        cases h
    · split at h
      · obtain ⟨x, y, rfl, e⟩ := two_c h
        split at e
        all_goals
          have e := Option.some.inj e
          subst e
          refine ⟨⟨by simp [szDs, wS, szD_srt], by simp⟩, fun p hp => ?_⟩
          simp only [List.mem_cons, List.not_mem_nil, or_false] at hp
          rcases hp with rfl | rfl
          · exact ⟨_, x, rfl, by simp [szDs]⟩
          · exact ⟨_, y, rfl, by simp [szDs]⟩
      · cases h
/-- enough turns -/
theorem right_fuel (ns : List Str) : ∀ (n m : Nat) (s : Str) (d : PyData), szD d ≤ n → szD d ≤ m → right ns n (srt s d) = right ns m (srt s d)
  | 0, _, s, d, h, _ => by have := szD_pos d; omega
  | _ + 1, 0, s, d, _, h => by have := szD_pos d; omega
  | n + 1, m + 1, s, d, h1, h2 => by
    cases d with
    | tuple es =>
      cases es with
      | nil => rfl
      | cons e0 ds =>
        cases e0 with
        | str w =>
          show (match partsP ns s w ds with
            | none => false
            | some ps => ps.all (right ns n)) = (match partsP ns s w ds with
            | none => false
            | some ps => ps.all (right ns m))
          cases hp : partsP ns s w ds with
          | none => rfl
          | some ps =>
            have ok := parts_ok hp
            show ps.all (right ns n) = ps.all (right ns m)
            have hz : szDs ds + 2 = szD (.tuple (.str w :: ds)) := by simp [szD, szDs]; omega
            rw [Bool.eq_iff_iff, List.all_eq_true, List.all_eq_true]
            constructor
            · intro h p hm
              obtain ⟨s', d', rfl, hd⟩ := ok.2 p hm
              rw [← right_fuel ns n m s' d' (by omega) (by omega)]
              exact h _ hm
            · intro h p hm
              obtain ⟨s', d', rfl, hd⟩ := ok.2 p hm
              rw [right_fuel ns n m s' d' (by omega) (by omega)]
              exact h _ hm
        | _ => rfl
    | _ => rfl
/-- whether a pair of a sort and of data is right -/
def rightD (ns : List Str) (q : PyData) : Bool := right ns (szD q) q
theorem rightD_no (ns : List Str) (s : Str) {d : PyData} (h : wordFirst d = false) : rightD ns (srt s d) = false := by
  unfold rightD
  rw [szD_srt]
  cases d with
  | tuple es =>
    cases es with
    | nil => rfl
    | cons e0 ds =>
      cases e0 with
      | str w => simp [wordFirst] at h
      | _ => rfl
  | _ => rfl
theorem rightD_parts (ns : List Str) (s w : Str) (ds : List PyData) : rightD ns (srt s (.tuple (.str w :: ds))) = (match partsP ns s w ds with
    | none => false
    | some ps => ps.all (rightD ns)) := by
  have hz : szD (srt s (.tuple (.str w :: ds))) = szDs ds + 3 + 1 := by simp [szD_srt, szD, szDs]; omega
  unfold rightD
  rw [hz]
  show (match partsP ns s w ds with
            | none => false
            | some ps => ps.all (right ns (szDs ds + 3))) = _
  cases hp : partsP ns s w ds with
  | none => rfl
  | some ps =>
    have ok := parts_ok hp
    show ps.all (right ns (szDs ds + 3)) = ps.all fun q => right ns (szD q) q
    rw [Bool.eq_iff_iff, List.all_eq_true, List.all_eq_true]
    constructor
    · intro h p hm
      obtain ⟨s', d', rfl, hd⟩ := ok.2 p hm
      rw [right_fuel ns (szD (srt s' d')) (szDs ds + 3) s' d' (by rw [szD_srt]; omega) (by omega)]
      exact h _ hm
    · intro h p hm
      obtain ⟨s', d', rfl, hd⟩ := ok.2 p hm
      rw [← right_fuel ns (szD (srt s' d')) (szDs ds + 3) s' d' (by rw [szD_srt]; omega) (by omega)]
      exact h _ hm
end
end C
namespace C
open PySem L2 G
section
variable {P : Program} {w : World} {K : PySem.W.Frag} {mg : Str → Option Value} {base : Heap}
theorem len_wS : ∀ {qs : List PyData}, (∀ p ∈ qs, ∃ s d, p = srt s d) → qs.length ≤ wS qs
  | [], _ => Nat.zero_le _
  | q :: r, h => by
    have ih := len_wS (qs := r) fun p hp => h p (List.mem_cons_of_mem _ hp)
    obtain ⟨s, d, rfl⟩ := h q List.mem_cons_self
    have := szD_pos d
    show r.length + 1 ≤ (szD (srt s d) - 2) + wS r
    rw [szD_srt]
    omega
def spRight (K : PySem.W.Frag) : Sp := fun vs H Q _ => ∃ (B : Hp) (a L : Addr) (ns : List Str) (xs : List V) (ps : List PyData), vs = [.ref a, .ref L] ∧ Ex B H ∧ SqT K B a (ns.map V.str) ∧ Mu B H L xs ∧ DpAll K B xs ps ∧ (∀ p ∈ ps, ∃ s d, p = srt s d) ∧ wS ps ≤ 30000 ∧
  ∀ B' H', Nx [L] B H B' H' → Q (.bl (ps.all (rightD ns))) H'
theorem ok_are_right (T : Txt w K mg) : Has P w K mg base "are_right" s_are_right 4 ["names", "todo"] (spRight K) := by
  refine has_mk T.d_are_right sc_are_right (fun _ _ _ _ _ _ us hl => match us, hl with | [_, _], _ => rfl) (fun vs H Q E h => ?_) (fun f cdv A outer s H vs Q E hr h => ?_)
  · obtain ⟨_, _, _, _, _, _, rfl, _⟩ := h
    rfl
  · obtain ⟨B, a, L, ns, xs, ps, rfl, e, hS, mL, hd, hp, hz, k⟩ := h
    refine ⟨_, (G.pss_cut (ps_while PassesOwn.never (pt_cmpR (op_neNilL hr.units) (pv 1) (pe_lst pa_nil) (nomark _))
      (pss_cons (ps_asg (pe_bm0 PySem.F.plainAttrs_list PySem.F.slot_list_pop PySem.F.type_list_pop mt_pop (pv 1)) (pg_tup (by rfl) (pgs_cons (pg_name (i := 2) sc_are_right.nd rfl (.inl rfl)) (pgs_cons (pg_name (i := 3) sc_are_right.nd rfl (.inl rfl)) pgs_nil))))
      (pss_cons (ps_if (pt_not (pt_val (pe_callH (ok_is_word_first T) hr (by rfl) (pa_cons (pv 3) pa_nil))))
      (pss_one (ps_ret pe_bl))
      pss_nil)
      (G.pss_cut (ps_set (i := 4) sc_are_right.nd rfl (.inl rfl) (pe_ifExp (pt_cmpR op_eq (pv 2) (pe_gS (by rfl) T.g_EXPRESSION) (nomark _)) (pe_callH (ok_expression_parts T) hr (by rfl) (pa_cons (pv 0) (pa_cons (pv 3) pa_nil))) (pe_callH (ok_condition_parts T) hr (by rfl) (pa_cons (pv 3) pa_nil))))
      (pss_cons (ps_if (pt_cmpR op_isN1 (pv 4) pe_non (nomark _))
      (pss_one (ps_ret pe_bl))
      pss_nil)
      (pss_one (ps_expr (pe_bm PySem.F.plainAttrs_list PySem.F.slot_list_extend PySem.F.type_list_extend mt_extend (pv 1) (pa_cons (pv 4) pa_nil)))))))))
      (pss_one (ps_ret pe_bl))), ?_⟩
    walk_at "go"
    refine G.sx_cut (fun σ H' => ps.all (rightD ns) = true ∧ ∃ B', Nx [L] B H B' H') ?_ ?_
    · refine ⟨fun m σ H' => ∃ (B' : Hp) (xs : List V) (qs : List PyData) (y2 y3 y4 : Option V), m = wS qs ∧ σ = [some (.ref a), some (.ref L), y2, y3, y4] ∧ Nx [L] B H B' H' ∧ Mu B' H' L xs ∧ DpAll K B' xs qs ∧ (∀ p ∈ qs, ∃ s d, p = srt s d) ∧ wS qs ≤ 30000 ∧ ps.all (rightD ns) = qs.all (rightD ns), ?_, ?_⟩
      · exact ⟨_, B, xs, ps, none, none, none, rfl, rfl, Nx.refl e, mL, hd, hp, hz, rfl⟩
      · rintro m σ H1 ⟨B1, xs1, qs, y2, y3, y4, rfl, rfl, n1, m1, d1, hp1, hz1, hq⟩
        have hin : ∀ b ∈ [L], H b ≠ none → H1 b ≠ none := fun b hb _ => by
          rw [List.mem_singleton] at hb
          subst hb
          rw [m1.h]
          exact fun z => nomatch z
        have hlen := Dps.len d1
        have hl1 := len_wS hp1
        walk_at "sx"
        refine sx_newM n1.h (by simp) fun p2 H2 hp2 n2 m2 => ?_
        have m1 := m1.up n2
        refine sx_neLd m1 m2.sq ?_
        walk_at "sx"
        by_cases he : qs = []
        · subst he
          have : xs1 = [] := List.length_eq_zero_iff.mp hlen
          subst this
          refine ifF rfl ?_
          exact ⟨hq, B1, n1.trans (n2.wk (by simp)) hin⟩
        · obtain ⟨r, q, rfl⟩ := snoc_of he
          obtain ⟨us, v, rfl, hus, hv⟩ := Dps.last d1
          obtain ⟨st, d, rfl⟩ := hp1 q (by simp)
          refine ifT (by simp) ?_
          refine ⟨_, fun _ _ h => h, ?_⟩
          walk_at "sx"
          refine sx_pop m1 n2.h fun H3 n3 m3 => ?_
          have n13 : Nx [L] B H B1 H3 := (n1.trans (n2.wk (by simp)) hin).trans n3 fun b hb _ => by
            rw [List.mem_singleton] at hb
            subst hb
            rw [m1.h]
            exact fun z => nomatch z
          refine sx_gtup2 hv n3.h fun v1 v2 e1 e2 => ?_
          cases Dp.str_v e1
          walk_at "sx"
          refine ⟨B1, v2, d, rfl, n3.h, e2, fun B4 H4 n4 => ?_⟩
          walk_at "sx"
          rw [List.all_append] at hq
          have hq1 : [srt st d].all (rightD ns) = rightD ns (srt st d) := by simp
          rw [hq1] at hq
          have hin3 : ∀ b ∈ [L], H b ≠ none → H3 b ≠ none := fun b hb _ => by
            rw [List.mem_singleton] at hb
            subst hb
            rw [m3.h]
            exact fun z => nomatch z
          have n14 : Nx [L] B H B4 H4 := n13.trans (n4.wk (by simp)) hin3
          cases hw : wordFirst d with
          | false =>
            refine ifT rfl ?_
            walk_at "sx"
            rw [rightD_no ns st hw, Bool.and_false] at hq
            have k := k B4 H4 n14
            rw [hq] at k
            exact k
          | true =>
            refine ifF rfl ?_
            walk_at "sx"
            obtain ⟨wd, ds, rfl⟩ : ∃ wd ds, d = .tuple (.str wd :: ds) := by
              cases d with
              | tuple es =>
                cases es with
                | nil => simp [wordFirst] at hw
                | cons e0 ds =>
                  cases e0 with
                  | str wd => exact ⟨wd, ds, rfl⟩
                  | _ => simp [wordFirst] at hw
              | _ => simp [wordFirst] at hw
            rw [rightD_parts] at hq
            have m4 := m3.up n4
            have e2' := Dp.up n4.b e2
            have hS4 := n4.b.t (n1.b.t hS)
            refine G.sx_cut (fun σ H' => ∃ y B5, σ = [some (.ref a), some (.ref L), some (.str st), some v2, some y] ∧ Nx [] B4 H4 B5 H' ∧ (match partsP ns st wd ds with
              | none => y = .non
              | some es => ∃ p xs', y = .ref p ∧ H4 p = none ∧ Mu B5 H' p xs' ∧ DpAll K B5 xs' es)) ?_ ?_
            · have hopt : ∀ R : V → Hp → Prop, (∀ y B5 H5, Nx [] B4 H4 B5 H5 → (match partsP ns st wd ds with
                  | none => y = .non
                  | some es => ∃ p xs', y = .ref p ∧ H4 p = none ∧ Mu B5 H5 p xs' ∧ DpAll K B5 xs' es) → R y H5) → OptL K B4 H4 (partsP ns st wd ds) R := by
                intro R hD
                cases hp : partsP ns st wd ds with
                | none => exact fun B5 H5 n5 => hD _ B5 H5 n5 (by rw [hp])
                | some es => exact fun B5 H5 p xs' n5 h1 h2 h3 => hD _ B5 H5 n5 (by rw [hp]; exact ⟨p, xs', rfl, h1, h2, h3⟩)
              walk_at "sx"
              by_cases hs : st = "expression"
              · refine ifT (str_eqT hs) ?_
                walk_at "sx"
                refine ⟨B4, a, ns, v2, wd, ds, rfl, n4.h, hS4, e2', ?_⟩
                have : partsP ns st wd ds = exprP ns wd ds := by unfold partsP; rw [if_pos hs]
                rw [← this]
                refine hopt _ fun y B5 H5 n5 h5 => ?_
                refine G.sx_gname ?_
                exact ⟨y, B5, rfl, n5, h5⟩
              · refine ifF (str_eqF hs) ?_
                walk_at "sx"
                refine ⟨B4, v2, wd, ds, rfl, n4.h, e2', ?_⟩
                have : partsP ns st wd ds = condP wd ds := by unfold partsP; rw [if_neg hs]
                rw [← this]
                refine hopt _ fun y B5 H5 n5 h5 => ?_
                refine G.sx_gname ?_
                exact ⟨y, B5, rfl, n5, h5⟩
            · rintro σ H5 ⟨y, B5, rfl, n5, h5⟩
              have n15 : Nx [L] B H B5 H5 := n14.trans (n5.wk (by simp)) fun b hb _ => by
                rw [List.mem_singleton] at hb
                subst hb
                rw [m4.h]
                exact fun z => nomatch z
              have m5 := m4.up n5
              walk_at "sx"
              cases hp : partsP ns st wd ds with
              | none =>
                rw [hp] at h5 hq
                have h5 : y = .non := h5
                subst h5
                refine ifT (by simp) ?_
                walk_at "sx"
                have hq : ps.all (rightD ns) = (r.all (rightD ns) && false) := hq
                rw [Bool.and_false] at hq
                have k := k B5 H5 n15
                rw [hq] at k
                exact k
              | some es =>
                rw [hp] at h5 hq
                obtain ⟨p, xs', rfl, hpn, mp, dp⟩ := h5
                have ok := parts_ok hp
                have hsz : wS [srt st (.tuple (.str wd :: ds))] = szDs ds + 2 := by simp [wS, szD_srt, szD, szDs]; omega
                rw [wS_app, hsz] at hz1
                have l1 := Dps.len hus
                have l2 := Dps.len dp
                have hl1 : r.length + 1 ≤ wS r + (szDs ds + 2) := by rw [wS_app, hsz] at hl1; simpa using hl1
                refine ifF (by simp) ?_
                walk_at "sx"
                refine sx_extend m5 n5.h mp.h (by rw [l1, l2]; have := ok.1.2; omega) fun H6 n6 m6 => ?_
                refine ⟨wS (r ++ es), ?_, B5, us ++ xs', r ++ es, _, _, _, rfl, rfl, n15.trans n6 ?_, m6, Dps.app (Dps.up (n4.b.trans n5.b) hus) dp, ?_, ?_, ?_⟩
                · rw [wS_app, wS_app, hsz]
                  have := ok.1.1
                  omega
                · intro b hb _
                  rw [List.mem_singleton] at hb
                  subst hb
                  rw [m5.h]
                  exact fun z => nomatch z
                · intro q hq
                  rcases List.mem_append.mp hq with h | h
                  · exact hp1 q (by simp [h])
                  · obtain ⟨s', d', e', _⟩ := ok.2 q h
                    exact ⟨s', d', e'⟩
                · rw [wS_app]
                  have := ok.1.1
                  omega
                · rw [List.all_append]
                  exact hq
    · rintro σ H' ⟨h, B', n⟩
      walk_at "sx"
      have k := k B' H' n
      rw [h] at k
      exact k
def spIs (K : PySem.W.Frag) (s : Str) : Sp := fun vs H Q _ => ∃ (B : Hp) (a : Addr) (ns : List Str) (x : V) (d : PyData), vs = [.ref a, x] ∧ Ex B H ∧ SqT K B a (ns.map V.str) ∧ Dp K B x d ∧ szD d ≤ 30000 ∧
  ∀ B' H', Nx [] B H B' H' → Q (.bl (rightD ns (srt s d))) H'
end
end C
namespace C
open PySem L2 G
section
variable {P : Program} {w : World} {K : PySem.W.Frag} {mg : Str → Option Value} {base : Heap}
theorem ok_is_expression (T : Txt w K mg) : Has P w K mg base "is_expression" s_is_expression 5 ["names", "value"] (spIs K "expression") := by
  refine has_mk T.d_is_expression sc_is_expression (fun _ _ _ _ _ _ us hl => match us, hl with | [_, _], _ => rfl) (fun vs H Q E h => ?_) (fun f cdv A outer s H vs Q E hr h => ?_)
  · obtain ⟨_, _, _, _, _, rfl, _⟩ := h
    rfl
  · obtain ⟨B, a, ns, x, d, rfl, e, hS, hx, hz, k⟩ := h
    refine ⟨_, (pss_one (ps_ret (pe_callH (ok_are_right T) hr (by rfl) (pa_cons (pe_callTy cl_tuple (by rfl) T.b_tuple (by decide +kernel) (pa_cons (pv 0) pa_nil)) (pa_cons (pe_lst (pa_cons (pe_tup (pa_cons (pe_gS (by rfl) T.g_EXPRESSION) (pa_cons (pv 1) pa_nil))) pa_nil)) pa_nil))))), ?_⟩
    walk_at "go"
    refine sx_tupOfT (e.t hS) ?_
    walk_at "sx"
    refine sx_newT e (.cons (.str _) (.cons hx .nil)) (by simp) fun p1 B1 H1 hp1 n1 t1 => ?_
    walk_at "sx"
    refine sx_newM n1.h (by simp) fun L H2 hL n2 m2 => ?_
    have t1 : Dp K B1 (.ref p1) (srt "expression" d) := t1
    refine ⟨B1, a, L, ns, _, [srt "expression" d], rfl, n2.h, n1.b.t hS, m2, .cons t1 .nil, ?_, ?_, fun B3 H3 n3 => ?_⟩
    · intro p hp
      rw [List.mem_singleton] at hp
      exact ⟨_, _, hp⟩
    · simp [wS, szD_srt]
      omega
    · have := k B3 H3 ((n1.tr n2).loc n3 (by simp [n1.ex.free hL]))
      rw [show [srt "expression" d].all (rightD ns) = rightD ns (srt "expression" d) by simp]
      exact this
end
end C
namespace C
open PySem L2 G
section
variable {P : Program} {w : World} {K : PySem.W.Frag} {mg : Str → Option Value} {base : Heap}
theorem ok_is_condition (T : Txt w K mg) : Has P w K mg base "is_condition" s_is_condition 5 ["names", "value"] (spIs K "condition") := by
  refine has_mk T.d_is_condition sc_is_condition (fun _ _ _ _ _ _ us hl => match us, hl with | [_, _], _ => rfl) (fun vs H Q E h => ?_) (fun f cdv A outer s H vs Q E hr h => ?_)
  · obtain ⟨_, _, _, _, _, rfl, _⟩ := h
    rfl
  · obtain ⟨B, a, ns, x, d, rfl, e, hS, hx, hz, k⟩ := h
    refine ⟨_, (pss_one (ps_ret (pe_callH (ok_are_right T) hr (by rfl) (pa_cons (pe_callTy cl_tuple (by rfl) T.b_tuple (by decide +kernel) (pa_cons (pv 0) pa_nil)) (pa_cons (pe_lst (pa_cons (pe_tup (pa_cons (pe_gS (by rfl) T.g_CONDITION) (pa_cons (pv 1) pa_nil))) pa_nil)) pa_nil))))), ?_⟩
    walk_at "go"
    refine sx_tupOfT (e.t hS) ?_
    walk_at "sx"
    refine sx_newT e (.cons (.str _) (.cons hx .nil)) (by simp) fun p1 B1 H1 hp1 n1 t1 => ?_
    walk_at "sx"
    refine sx_newM n1.h (by simp) fun L H2 hL n2 m2 => ?_
    have t1 : Dp K B1 (.ref p1) (srt "condition" d) := t1
    refine ⟨B1, a, L, ns, _, [srt "condition" d], rfl, n2.h, n1.b.t hS, m2, .cons t1 .nil, ?_, ?_, fun B3 H3 n3 => ?_⟩
    · intro p hp
      rw [List.mem_singleton] at hp
      exact ⟨_, _, hp⟩
    · simp [wS, szD_srt]
      omega
    · have := k B3 H3 ((n1.tr n2).loc n3 (by simp [n1.ex.free hL]))
      rw [show [srt "condition" d].all (rightD ns) = rightD ns (srt "condition" d) by simp]
      exact this
end
end C
namespace C
open PySem L2 G
section
variable {P : Program} {w : World} {K : PySem.W.Frag} {mg : Str → Option Value} {base : Heap}
/-! ### expressions and conditions as trees -/
inductive Tm where
  | num (i : Int)
  | fld (s : Str)
  | bin (w : Str) (a b : Tm)
  | cut (w : Str) (a : Tm) (n : Int)
  | neg (a : Tm)
def Tm.d : Tm → PyData
  | .num i => .tuple [.str "number", .int i]
  | .fld s => .tuple [.str "field", .str s]
  | .bin w a b => .tuple [.str w, a.d, b.d]
  | .cut w a n => .tuple [.str w, a.d, .int n]
  | .neg a => .tuple [.str "not", a.d]
def Tm.size : Tm → Nat
  | .num _ => 1
  | .fld _ => 1
  | .bin _ a b => a.size + b.size + 2
  | .cut _ a _ => a.size + 2
  | .neg a => a.size + 2
theorem Tm.size_pos (t : Tm) : 0 < t.size := by cases t <;> simp [Tm.size]
/-- leaves -/
def Tm.lv : Tm → Nat
  | .num _ => 1
  | .fld _ => 1
  | .bin _ a b => a.lv + b.lv
  | .cut _ a _ => a.lv
  | .neg a => a.lv
theorem Tm.lv_pos (t : Tm) : 0 < t.lv := by induction t <;> simp [Tm.lv] <;> omega
/-- the names of fields in it -/
def Tm.flds : Tm → List Str
  | .num _ => []
  | .fld s => [s]
  | .bin _ a b => a.flds ++ b.flds
  | .cut _ a _ => a.flds
  | .neg a => a.flds
/-- right ones: c tells whether a condition -/
def Tm.Ok : Bool → Tm → Prop
  | c, .num i => c = false ∧ i.natAbs < 2 ^ 20
  | c, .fld _ => c = false
  | c, .bin w a b => (c = false ∧ w ∈ (["plus", "less", "times", "min", "max"] : List Str) ∧ a.Ok false ∧ b.Ok false) ∨ (c = true ∧ w ∈ (["same", "below"] : List Str) ∧ a.Ok false ∧ b.Ok false) ∨ (c = true ∧ w ∈ (["and", "or"] : List Str) ∧ a.Ok true ∧ b.Ok true)
  | c, .cut w a n => c = false ∧ w ∈ (["div", "rest"] : List Str) ∧ 0 < n ∧ n < 1000000 ∧ a.Ok false
  | c, .neg a => c = true ∧ a.Ok true
/-- what two worths come to -/
def op2 (w : Str) (x y : PyData) : PyData := match x, y with
  | .int i, .int j => if w = "plus" then .int (i + j) else if w = "less" then .int (i - j) else if w = "times" then .int (i * j) else if w = "min" then .int (if j < i then j else i) else if w = "max" then .int (if j > i then j else i) else if w = "same" then .bool (decide (i = j)) else .bool (decide (i < j))
  | .bool p, .bool q => if w = "and" then .bool (p && q) else .bool (p || q)
  | _, _ => .none
def op1 (w : Str) (n : Int) (x : PyData) : PyData := match x with
  | .int i => if w = "div" then .int (i / n) else .int (i % n)
  | _ => .none
def opN (x : PyData) : PyData := match x with
  | .bool p => .bool (!p)
  | _ => .none
def Tm.ev (env : Str → Int) : Tm → PyData
  | .num i => .int i
  | .fld s => .int (env s)
  | .bin w a b => op2 w (a.ev env) (b.ev env)
  | .cut w a n => op1 w n (a.ev env)
  | .neg a => opN (a.ev env)
/-- what comes out: an int of bounded size, or a bool -/
def Worth (c : Bool) (b : Nat) (d : PyData) : Prop := if c then ∃ p, d = .bool p else ∃ i : Int, d = .int i ∧ i.natAbs < 2 ^ b
theorem pow_add_le {a b : Nat} (ha : 0 < a) (hb : 0 < b) : 2 ^ a + 2 ^ b ≤ 2 ^ (a + b) := by
  rw [Nat.pow_add]
  have h1 : 2 ≤ 2 ^ a := by have := Nat.pow_le_pow_right (n := 2) (by decide) ha; simpa using this
  have h2 : 2 ≤ 2 ^ b := by have := Nat.pow_le_pow_right (n := 2) (by decide) hb; simpa using this
  generalize 2 ^ a = x at *
  generalize 2 ^ b = y at *
  obtain ⟨x', rfl⟩ : ∃ x', x = x' + 2 := ⟨x - 2, by omega⟩
  obtain ⟨y', rfl⟩ : ∃ y', y = y' + 2 := ⟨y - 2, by omega⟩
  rw [Nat.mul_add, Nat.add_mul]
  have : 0 ≤ x' * y' := Nat.zero_le _
  omega
theorem pow_mono {a b : Nat} (h : a ≤ b) : 2 ^ a ≤ 2 ^ b := Nat.pow_le_pow_right (by decide) h
theorem Tm.ev_ok {env : Str → Int} : ∀ {t : Tm} {c : Bool}, t.Ok c → (∀ s ∈ t.flds, (env s).natAbs < 2 ^ 20) → Worth c (20 * t.lv) (t.ev env)
  | .num i, c, h, _ => by
    obtain ⟨rfl, h⟩ := h
    exact ⟨i, rfl, h⟩
  | .fld s, c, h, he => by
    have h : c = false := h
    subst h
    exact ⟨_, rfl, he s (by simp [Tm.flds])⟩
  | .bin w a b, c, h, he => by
    have la := a.lv_pos
    have lb := b.lv_pos
    have hea : ∀ s ∈ a.flds, (env s).natAbs < 2 ^ 20 := fun s hs => he s (by simp [Tm.flds, hs])
    have heb : ∀ s ∈ b.flds, (env s).natAbs < 2 ^ 20 := fun s hs => he s (by simp [Tm.flds, hs])
    rcases h with ⟨rfl, hw, ha, hb⟩ | ⟨rfl, hw, ha, hb⟩ | ⟨rfl, hw, ha, hb⟩
    · obtain ⟨i, ei, hi⟩ := Tm.ev_ok ha hea
      obtain ⟨j, ej, hj⟩ := Tm.ev_ok hb heb
      have hle : 2 ^ (20 * a.lv) + 2 ^ (20 * b.lv) ≤ 2 ^ (20 * (a.lv + b.lv)) := by
        rw [Nat.mul_add]
        exact pow_add_le (by omega) (by omega)
      have ha1 : 2 ^ (20 * a.lv) ≤ 2 ^ (20 * (a.lv + b.lv)) := pow_mono (by omega)
      have hb1 : 2 ^ (20 * b.lv) ≤ 2 ^ (20 * (a.lv + b.lv)) := pow_mono (by omega)
      show ∃ k : Int, op2 w (a.ev env) (b.ev env) = .int k ∧ k.natAbs < 2 ^ (20 * (a.lv + b.lv))
      rw [ei, ej]
      simp only [op2]
      simp only [List.mem_cons, List.not_mem_nil, or_false] at hw
      rcases hw with rfl | rfl | rfl | rfl | rfl
      · rw [if_pos rfl]
        exact ⟨_, rfl, by omega⟩
      · rw [if_neg (by decide +kernel), if_pos rfl]
        exact ⟨_, rfl, by omega⟩
      · rw [if_neg (by decide +kernel), if_neg (by decide +kernel), if_pos rfl]
        refine ⟨_, rfl, ?_⟩
        rw [Int.natAbs_mul, Nat.mul_add, Nat.pow_add]
        exact Nat.mul_lt_mul'' hi hj
      · rw [if_neg (by decide +kernel), if_neg (by decide +kernel), if_neg (by decide +kernel), if_pos rfl]
        refine ⟨_, rfl, ?_⟩
        split <;> omega
      · rw [if_neg (by decide +kernel), if_neg (by decide +kernel), if_neg (by decide +kernel), if_neg (by decide +kernel), if_pos rfl]
        refine ⟨_, rfl, ?_⟩
        split <;> omega
    · obtain ⟨i, ei, hi⟩ := Tm.ev_ok ha hea
      obtain ⟨j, ej, hj⟩ := Tm.ev_ok hb heb
      show ∃ p, op2 w (a.ev env) (b.ev env) = .bool p
      rw [ei, ej]
      simp only [op2]
      simp only [List.mem_cons, List.not_mem_nil, or_false] at hw
      rcases hw with rfl | rfl
      · rw [if_neg (by decide +kernel), if_neg (by decide +kernel), if_neg (by decide +kernel), if_neg (by decide +kernel), if_neg (by decide +kernel), if_pos rfl]
        exact ⟨_, rfl⟩
      · rw [if_neg (by decide +kernel), if_neg (by decide +kernel), if_neg (by decide +kernel), if_neg (by decide +kernel), if_neg (by decide +kernel), if_neg (by decide +kernel)]
        exact ⟨_, rfl⟩
    · obtain ⟨p, ep⟩ := Tm.ev_ok ha hea
      obtain ⟨q, eq⟩ := Tm.ev_ok hb heb
      show ∃ p, op2 w (a.ev env) (b.ev env) = .bool p
      rw [ep, eq]
      simp only [op2]
      split
      · exact ⟨_, rfl⟩
      · exact ⟨_, rfl⟩
  | .cut w a n, c, h, he => by
    obtain ⟨rfl, hw, n0, n1, ha⟩ := h
    obtain ⟨i, ei, hi⟩ := Tm.ev_ok ha he
    show ∃ k : Int, op1 w n (a.ev env) = .int k ∧ k.natAbs < 2 ^ (20 * a.lv)
    rw [ei]
    simp only [op1]
    have la := a.lv_pos
    have h20 : 2 ^ 20 ≤ 2 ^ (20 * a.lv) := pow_mono (by omega)
    split
    · refine ⟨_, rfl, ?_⟩
      have h1 : (i / n).natAbs ≤ i.natAbs := Int.natAbs_ediv_le_natAbs i n
      omega
    · refine ⟨_, rfl, ?_⟩
      have h1 := Int.emod_nonneg i (show n ≠ 0 by omega)
      have h2 := Int.emod_lt_of_pos i n0
      omega
  | .neg a, c, h, he => by
    obtain ⟨rfl, ha⟩ := h
    obtain ⟨p, ep⟩ := Tm.ev_ok ha he
    show ∃ p, opN (a.ev env) = .bool p
    rw [ep]
    exact ⟨_, rfl⟩
/-- the first word -/
def fst : Tm → Str
  | .num _ => "number"
  | .fld _ => "field"
  | .bin w _ _ => w
  | .cut w _ _ => w
  | .neg _ => "not"
theorem tm_d (t : Tm) : ∃ ds, t.d = .tuple (.str (fst t) :: ds) := by cases t <;> exact ⟨_, rfl⟩
end
end C
namespace C
open PySem L2 G
section
variable {P : Program} {w : World} {K : PySem.W.Frag} {mg : Str → Option Value} {base : Heap}
/-- what is drawn: a tree over some fields -/
structure Drawn (ns : List Str) (t : Tm) : Prop where
  ok : t.Ok false
  fl : ∀ s ∈ t.flds, s ∈ ns
def spLeaf (K : PySem.W.Frag) : Sp := fun vs H Q _ => ∃ (B : Hp) (d l a : Addr) (ns : List Str), vs = [.ref d, .ref a] ∧ Ex B H ∧ Deal B H d l ∧ SqL K H a (ns.map V.str) ∧ a ≠ d ∧ a ≠ l ∧ 0 < ns.length ∧ ns.length < 100 ∧
  ∀ B' H' v t, Nx [d, l] B H B' H' → Deal B' H' d l → Dp K B' v t.d → Drawn ns t → t.lv = 1 → t.size = 1 → Q v H'
theorem ok_law_leaf (T : Txt w K mg) : Has P w K mg base "_law_leaf" s_law_leaf 3 ["deal", "names"] (spLeaf K) := by
  refine has_mk T.d_law_leaf sc_law_leaf (fun _ _ _ _ _ _ us hl => match us, hl with | [_, _], _ => rfl) (fun vs H Q E h => ?_) (fun f cdv A outer s H vs Q E hr h => ?_)
  · obtain ⟨_, _, _, _, _, rfl, _⟩ := h
    rfl
  · obtain ⟨B, d, l, a, ns, rfl, e, hD, hS, ad, al, x0, x1, k⟩ := h
    refine ⟨_, (pss_cons (ps_if (pt_cmpR op_eq (pe_callH (ok_law_any T) hr (by rfl) (pa_cons (pv 0) (pa_cons pe_int pa_nil))) pe_int (nomark _))
      (pss_one (ps_ret (pe_tup (pa_cons pe_str (pa_cons (pe_callH (ok_law_of T) hr (by rfl) (pa_cons (pv 0) (pa_cons (pe_lst (pa_cons pe_int (pa_cons pe_int (pa_cons pe_int (pa_cons pe_int (pa_cons pe_int (pa_cons (pe_op op_sub pe_int pe_int) (pa_cons (pe_op op_sub pe_int pe_int) (pa_cons pe_int (pa_cons pe_int (pa_cons (pe_op op_sub pe_int pe_int) (pa_cons (pe_callH (ok_law_any T) hr (by rfl) (pa_cons (pv 0) (pa_cons pe_int pa_nil))) pa_nil)))))))))))) pa_nil))) pa_nil)))))
      pss_nil)
      (pss_one (ps_ret (pe_tup (pa_cons pe_str (pa_cons (pe_callH (ok_law_of T) hr (by rfl) (pa_cons (pv 0) (pa_cons (pv 1) pa_nil))) pa_nil)))))), ?_⟩
    walk_at "go"
    refine ⟨B, d, l, 3, rfl, e, hD, by omega, by omega, fun B1 H1 r n1 D1 r0 r1 => ?_⟩
    walk_at "sx"
    have S1 := n1.sq hS (by simp [ad, al])
    by_cases h0 : r = 0
    · refine ifT (int_eqT h0) ?_
      walk_at "sx"
      refine ⟨B1, d, l, 50, rfl, n1.h, D1, by omega, by omega, fun B2 H2 q n2 D2 q0 q1 => ?_⟩
      have n12 := n1.trans n2 fun b hb _ => D1.in b hb
      walk_at "sx"
      refine sx_newM n2.h (by simp) fun p H3 hp n3 m3 => ?_
      have D3 := D2.up n3
      have off := D2.off hp
      refine ⟨B2, d, l, p, _, rfl, n3.h, D3, m3.sq, off.1, off.2, by simp, by simp, fun B4 H4 i v n4 D4 hv => ?_⟩
      have n14 := (Deal.go n12 D2 n3).trans n4 fun b hb _ => D3.in b hb
      obtain ⟨z, rfl, hz⟩ : ∃ z : Int, v = .int z ∧ z.natAbs < 2 ^ 20 := by
        have hm := List.mem_of_getElem? hv
        simp only [List.mem_cons, List.not_mem_nil, or_false] at hm
        rcases hm with rfl | rfl | rfl | rfl | rfl | rfl | rfl | rfl | rfl | rfl | rfl <;> exact ⟨_, rfl, by omega⟩
      walk_at "sx"
      refine sx_newT (K := K) n4.h (.cons (.str _) (.cons (.int z) .nil)) (by simp) fun p5 B5 H5 hp5 n5 d5 => ?_
      exact k B5 H5 _ (.num z) (Deal.go n14 D4 n5) (D4.up n5) d5 ⟨⟨rfl, hz⟩, fun s hs => by simp [Tm.flds] at hs⟩ rfl rfl
    · refine ifF (int_eqF h0) ?_
      walk_at "sx"
      refine ⟨B1, d, l, a, _, rfl, n1.h, D1, S1, ad, al, by simpa using x0, by simp; omega, fun B4 H4 i v n4 D4 hv => ?_⟩
      have n14 := n1.trans n4 fun b hb _ => D1.in b hb
      obtain ⟨z, hz, rfl⟩ := List.mem_map.mp (List.mem_of_getElem? hv)
      walk_at "sx"
      refine sx_newT (K := K) n4.h (.cons (.str _) (.cons (.str z) .nil)) (by simp) fun p5 B5 H5 hp5 n5 d5 => ?_
      exact k B5 H5 _ (.fld z) (Deal.go n14 D4 n5) (D4.up n5) d5 ⟨rfl, fun s hs => by simp [Tm.flds] at hs; rw [hs]; exact hz⟩ rfl rfl
end
end C
namespace C
open PySem L2 G
section
variable {P : Program} {w : World} {K : PySem.W.Frag} {mg : Str → Option Value} {base : Heap}
theorem sum_erase {α : Type} (f : α → Nat) : ∀ {ts : List α} {i : Nat} {t : α}, ts[i]? = some t → ((ts.eraseIdx i).map f).sum + f t = (ts.map f).sum
  | [], _, _, h => by simp at h
  | a :: r, 0, t, h => by
    have e : a = t := Option.some.inj h
    subst e
    simp
    omega
  | a :: r, i + 1, t, h => by
    have ih := sum_erase f (ts := r) (i := i) (t := t) h
    simp only [List.eraseIdx_cons_succ, List.map_cons, List.sum_cons]
    omega
theorem map_erase {α β : Type} (f : α → β) : ∀ (ts : List α) (i : Nat), (ts.eraseIdx i).map f = (ts.map f).eraseIdx i
  | [], _ => rfl
  | _ :: _, 0 => rfl
  | a :: r, i + 1 => by
    simp only [List.eraseIdx_cons_succ, List.map_cons]
    rw [map_erase f r i]
theorem mem_of_erase {α : Type} {x : α} : ∀ {ts : List α} {i : Nat}, x ∈ ts.eraseIdx i → x ∈ ts
  | [], _, h => by simp at h
  | _ :: _, 0, h => by simp at h; simp [h]
  | a :: r, i + 1, h => by
    simp only [List.eraseIdx_cons_succ, List.mem_cons] at h
    rcases h with h | h
    · simp [h]
    · simp [mem_of_erase h]
/-- an item of a list of data -/
theorem pick_d {K : PySem.W.Frag} {B : Hp} {xs : List V} {α : Type} {g : α → PyData} {ts : List α} (h : DpAll K B xs (ts.map g)) {i : Nat} (hi : i < ts.length) : ∃ v t, xs[i]? = some v ∧ ts[i]? = some t ∧ Dp K B v (g t) := by
  obtain ⟨v, h1, h2⟩ := Dps.get h (show (ts.map g)[i]? = some (g ts[i]) by rw [List.getElem?_map, List.getElem?_eq_getElem hi]; rfl)
  exact ⟨v, ts[i], h1, List.getElem?_eq_getElem hi, h2⟩
def spSum (K : PySem.W.Frag) : Sp := fun vs H Q _ => ∃ (B : Hp) (d l a : Addr) (ns : List Str) (j : Nat), vs = [.ref d, .ref a, .int (j : Int)] ∧ Ex B H ∧ Deal B H d l ∧ SqL K H a (ns.map V.str) ∧ a ≠ d ∧ a ≠ l ∧ 0 < ns.length ∧ ns.length < 100 ∧ j ≤ 100 ∧
  ∀ B' H' v t, Nx [d, l] B H B' H' → Deal B' H' d l → Dp K B' v t.d → Drawn ns t → t.lv = j + 1 → t.size ≤ 5 * j + 1 → Q v H'
theorem ok_law_sum_of (T : Txt w K mg) : Has P w K mg base "_law_sum_of" s_law_sum_of 4 ["deal", "names", "joins"] (spSum K) := by
  refine has_mk T.d_law_sum_of sc_law_sum_of (fun _ _ _ _ _ _ us hl => match us, hl with | [_, _, _], _ => rfl) (fun vs H Q E h => ?_) (fun f cdv A outer s H vs Q E hr h => ?_)
  · obtain ⟨_, _, _, _, _, _, rfl, _⟩ := h
    rfl
  · obtain ⟨B, d, l, a, ns, j, rfl, e, hD, hS, ad, al, x0, x1, hj, k⟩ := h
    refine ⟨_, (pss_cons (ps_setLc (i := 3) (own := [("turn", 4)]) (g := (gName 4)) rfl sc_law_sum_of.nd rfl rfl (sw_true rfl rfl rfl (by decide +kernel)) (pi_range1 (by rfl) T.b_range (pa_cons (pe_op op_add (pv 2) pe_int) pa_nil)) (blkOk_by (own := [("turn", 4)]) (N := ["deal", "names", "joins", "heap", "turn", "one", "other", "made"]) (sc := defScope s_law_sum_of) (by decide +kernel)) (fun _ _ _ _ _ => pg_name (i := 4) sc_law_sum_of.nd rfl (.inl rfl)) (fun _ _ _ _ _ => pts_nil) (fun _ _ _ _ _ => (pe_callH (ok_law_leaf T) hr (by rfl) (pa_cons (pv 0) (pa_cons (pv 1) pa_nil)))))
      (pss_cons (ps_for PassesOwn.never rfl (pi_range1 (by rfl) T.b_range (pa_cons (pv 2) pa_nil)) (pg_name (i := 4) sc_law_sum_of.nd rfl (.inl rfl))
      (pss_cons (ps_set (i := 5) sc_law_sum_of.nd rfl (.inl rfl) (pe_bm PySem.F.plainAttrs_list PySem.F.slot_list_pop PySem.F.type_list_pop mt_popAt (pv 3) (pa_cons (pe_callH (ok_law_any T) hr (by rfl) (pa_cons (pv 0) (pa_cons (pe_callB cl_len (by rfl) T.b_len (by decide +kernel) (pa_cons (pv 3) pa_nil)) pa_nil))) pa_nil)))
      (pss_cons (ps_set (i := 6) sc_law_sum_of.nd rfl (.inl rfl) (pe_bm PySem.F.plainAttrs_list PySem.F.slot_list_pop PySem.F.type_list_pop mt_popAt (pv 3) (pa_cons (pe_callH (ok_law_any T) hr (by rfl) (pa_cons (pv 0) (pa_cons (pe_callB cl_len (by rfl) T.b_len (by decide +kernel) (pa_cons (pv 3) pa_nil)) pa_nil))) pa_nil)))
      (pss_cons (ps_set (i := 7) sc_law_sum_of.nd rfl (.inl rfl) (pe_tup (pa_cons (pe_callH (ok_law_of T) hr (by rfl) (pa_cons (pv 0) (pa_cons (pe_lst (pa_cons pe_str (pa_cons pe_str (pa_cons pe_str (pa_cons pe_str (pa_cons pe_str (pa_cons pe_str (pa_cons pe_str pa_nil)))))))) pa_nil))) (pa_cons (pv 5) (pa_cons (pv 6) pa_nil)))))
      (pss_cons (ps_if (pt_cmpR op_eq (pe_callH (ok_law_any T) hr (by rfl) (pa_cons (pv 0) (pa_cons pe_int pa_nil))) pe_int (nomark _))
      (pss_one (ps_set (i := 7) sc_law_sum_of.nd rfl (.inl rfl) (pe_tup (pa_cons (pe_callH (ok_law_of T) hr (by rfl) (pa_cons (pv 0) (pa_cons (pe_lst (pa_cons pe_str (pa_cons pe_str pa_nil))) pa_nil))) (pa_cons (pv 7) (pa_cons (pe_callH (ok_law_of T) hr (by rfl) (pa_cons (pv 0) (pa_cons (pe_lst (pa_cons pe_int (pa_cons pe_int (pa_cons pe_int (pa_cons pe_int (pa_cons pe_int pa_nil)))))) pa_nil))) pa_nil))))))
      pss_nil)
      (pss_one (ps_expr (pe_bm PySem.F.plainAttrs_list PySem.F.slot_list_append PySem.F.type_list_append mt_append (pv 3) (pa_cons (pv 7) pa_nil)))))))))
      (pss_one (ps_ret (pe_ix ix_list (pv 3) pe_int (fun _ _ => rfl)))))), ?_⟩
    walk_at "go"
    rw [show (j : Int) + 1 = ((j + 1 : Nat) : Int) by omega]
    refine sx_lcR_by (by omega) (fun L i H' => H L = none ∧ ∃ (B' : Hp) (xs : List V) (ts : List Tm), Nx [d, l] B H B' H' ∧ Deal B' H' d l ∧ Mu B' H' L xs ∧ DpAll K B' xs (ts.map Tm.d) ∧ ts.length = i ∧ (∀ t ∈ ts, Drawn ns t) ∧ (ts.map Tm.lv).sum = i ∧ (ts.map Tm.size).sum = i) (fun L hL => ⟨hL, B, [], [], (Nx.own e hL), hD.up (Nx.own (M := []) e hL), Mu.new e hL, .nil, rfl, by simp, rfl, rfl⟩) (fun L i H1 hi p => ?_) (fun L H1 p => ?_)
    · obtain ⟨hL, B1, xs, ts, n1, D1, m1, d1, l1, dr1, v1, z1⟩ := p
      walk_at "st"
      refine G.sx_gname ?_
      walk_at "st"
      refine ⟨trivial, ?_⟩
      walk_at "sx"
      refine iteT ?_
      walk_at "sx"
      refine ⟨B1, d, l, a, ns, rfl, n1.h, D1, n1.sq hS (by simp [ad, al]), ad, al, x0, x1, fun B2 H2 v t n2 D2 dt dr lv sz => ?_⟩
      have offL := hD.off hL
      have m2 := m1.up n2 (by simp [offL.1, offL.2])
      have n12 := n1.trans n2 fun b hb _ => D1.in b hb
      have lx := Dps.len d1
      rw [List.length_map] at lx
      refine ⟨_, m2.h, sz_lt (by omega), hL, B2, _, ts ++ [t], Deal.go n12 D2 (m2.put n2.h) (by simp [hL]), D2.up (m2.put n2.h) (by simp [offL.1.symm, offL.2.symm]), m2.set, ?_, by simp [l1], ?_, ?_, ?_⟩
      · rw [List.map_append]
        exact Dps.app (Dps.up n2.b d1) (.cons dt .nil)
      · intro t' ht
        rcases List.mem_append.mp ht with h | h
        · exact dr1 t' h
        · rw [List.mem_singleton] at h
          rw [h]
          exact dr
      · rw [List.map_append, List.sum_append, v1]
        simp [lv]
      · rw [List.map_append, List.sum_append, z1]
        simp [sz]
    · obtain ⟨hL, B1, xs, ts, n1, D1, m1, d1, l1, dr1, v1, z1⟩ := p
      have offL := hD.off hL
      walk_at "sx"
      walk_at "st"
      refine sx_forR_by (by omega) (fun i σ H' => ∃ (B' : Hp) (xs : List V) (ts : List Tm) (y1 y2 y3 y4 : Option V), σ = [some (.ref d), some (.ref a), some (.int (j : Int)), some (.ref L), y1, y2, y3, y4] ∧ Nx [d, l] B H B' H' ∧ Deal B' H' d l ∧ Mu B' H' L xs ∧ DpAll K B' xs (ts.map Tm.d) ∧ ts.length + i = j + 1 ∧ (∀ t ∈ ts, Drawn ns t) ∧ (ts.map Tm.lv).sum = j + 1 ∧ (ts.map Tm.size).sum ≤ j + 1 + 4 * i) ⟨B1, xs, ts, _, _, _, _, rfl, n1, D1, m1, d1, by omega, dr1, v1, by omega⟩ (fun i σ H2 hi p => ?_) (fun σ H2 p => ?_)
      · obtain ⟨B2, xs, ts, y1, y2, y3, y4, rfl, n2, D2, m2, d2, l2, dr2, v2, z2⟩ := p
        have lx := Dps.len d2
        rw [List.length_map] at lx
        walk_at "sx"
        refine ⟨B2, d, l, _, rfl, n2.h, D2, by omega, by omega, fun B3 H3 r n3 D3 r0 r1 => ?_⟩
        have n23 := n2.trans n3 fun b hb _ => D2.in b hb
        have m3 := m2.up n3 (by simp [offL.1, offL.2])
        obtain ⟨q, rfl⟩ : ∃ q : Nat, r = (q : Int) := ⟨r.toNat, by omega⟩
        obtain ⟨va, ta, hva, hta, dva⟩ := pick_d d2 (i := q) (by omega)
        walk_at "sx"
        refine sx_popAt m3 n3.h hva (by omega) fun H4 n4 m4 => ?_
        have D4 := D3.up n4 (by simp [offL.1.symm, offL.2.symm])
        have n24 := Deal.go n23 D3 n4 (by simp [hL])
        walk_at "sx"
        have le1 : (xs.eraseIdx q).length + 1 = xs.length := by rw [List.length_eraseIdx]; split <;> omega
        refine ⟨B3, d, l, _, rfl, n4.h, D4, by omega, by omega, fun B5 H5 r' n5 D5 r0' r1' => ?_⟩
        have n25 := n24.trans n5 fun b hb _ => D4.in b hb
        have m5 := m4.up n5 (by simp [offL.1, offL.2])
        obtain ⟨q', rfl⟩ : ∃ q : Nat, r' = (q : Int) := ⟨r'.toNat, by omega⟩
        have d3 : DpAll K B3 (xs.eraseIdx q) ((ts.eraseIdx q).map Tm.d) := by
          rw [map_erase]
          exact Dps.erase (Dps.up n3.b d2)
        have le2 : (ts.eraseIdx q).length = (xs.eraseIdx q).length := by
          have := Dps.len d3
          rw [List.length_map] at this
          exact this.symm
        obtain ⟨vb, tb, hvb, htb, dvb⟩ := pick_d d3 (i := q') (by omega)
        have dra := dr2 ta (List.mem_of_getElem? hta)
        have drb := dr2 tb (mem_of_erase (List.mem_of_getElem? htb))
        walk_at "sx"
        refine sx_popAt m5 n5.h hvb (by omega) fun H6 n6 m6 => ?_
        have D6 := D5.up n6 (by simp [offL.1.symm, offL.2.symm])
        have n26 := Deal.go n25 D5 n6 (by simp [hL])
        walk_at "sx"
        refine sx_newM n6.h (by simp) fun p7 H7 hp7 n7 m7 => ?_
        have D7 := D6.up n7
        have off7 := D6.off hp7
        refine ⟨B5, d, l, p7, _, rfl, n7.h, D7, m7.sq, off7.1, off7.2, by simp, by simp, fun B8 H8 i8 v8 n8 D8 hv8 => ?_⟩
        have n28 := (Deal.go n26 D6 n7).trans n8 fun b hb _ => D7.in b hb
        obtain ⟨w8, rfl, hw8⟩ : ∃ w : Str, v8 = .str w ∧ w ∈ (["plus", "less", "times", "min", "max"] : List Str) := by
          have hm := List.mem_of_getElem? hv8
          simp only [List.mem_cons, List.not_mem_nil, or_false] at hm
          rcases hm with rfl | rfl | rfl | rfl | rfl | rfl | rfl <;> exact ⟨_, rfl, by decide +kernel⟩
        have m8 := (m6.up n7).up n8 (by simp [offL.1, offL.2])
        walk_at "sx"
        have dva8 : Dp K B8 va ta.d := Dp.up (n3.b.trans (n5.b.trans n8.b)) dva
        have dvb8 : Dp K B8 vb tb.d := Dp.up (n5.b.trans n8.b) dvb
        refine sx_newT (K := K) n8.h (.cons (.str _) (.cons dva8 (.cons dvb8 .nil))) (by simp) fun p9 B9 H9 hp9 n9 d9 => ?_
        have d9 : Dp K B9 (.ref p9) (Tm.bin w8 ta tb).d := d9
        have D9 := D8.up n9
        have n29 := Deal.go n28 D8 n9
        have m9 := m8.up n9
        have dr9 : Drawn ns (.bin w8 ta tb) := ⟨.inl ⟨rfl, hw8, dra.ok, drb.ok⟩, fun s hs => by
          simp only [Tm.flds, List.mem_append] at hs
          rcases hs with h | h
          · exact dra.fl s h
          · exact drb.fl s h⟩
        have lvs : ((((ts.eraseIdx q).eraseIdx q').map Tm.lv).sum + tb.lv) + ta.lv = j + 1 := by rw [sum_erase Tm.lv htb, sum_erase Tm.lv hta, v2]
        have szs : ((((ts.eraseIdx q).eraseIdx q').map Tm.size).sum + tb.size) + ta.size ≤ j + 1 + 4 * i := by rw [sum_erase Tm.size htb, sum_erase Tm.size hta]; exact z2
        have le3 : ((ts.eraseIdx q).eraseIdx q').length + 1 = (ts.eraseIdx q).length := by rw [List.length_eraseIdx]; split <;> omega
        have d6 : DpAll K B9 ((xs.eraseIdx q).eraseIdx q') (((ts.eraseIdx q).eraseIdx q').map Tm.d) := by
          rw [map_erase]
          exact Dps.erase (Dps.up (n5.b.trans (n8.b.trans n9.b)) d3)
        have lx6 := Dps.len d6
        rw [List.length_map] at lx6
        have hmem : ∀ t ∈ (ts.eraseIdx q).eraseIdx q', Drawn ns t := fun t ht => dr2 t (mem_of_erase (mem_of_erase ht))
        walk_at "sx"
        refine ⟨B9, d, l, 3, rfl, n9.h, D9, by omega, by omega, fun B10 H10 r10 n10 D10 r100 r101 => ?_⟩
        have n210 := n29.trans n10 fun b hb _ => D9.in b hb
        have m10 := m9.up n10 (by simp [offL.1, offL.2])
        walk_at "sx"
        -- the end of a turn
        have fin : ∀ (B' H' : Hp) (v : V) (t : Tm) (y1 y2 y3 : Option V), Nx [d, l] B H B' H' → Deal B' H' d l → Mu B' H' L ((xs.eraseIdx q).eraseIdx q') → Ex B9 B' → Dp K B' v t.d → Drawn ns t → t.lv = ta.lv + tb.lv → t.size ≤ ta.size + tb.size + 4 →
            rAppend (.ref L) [v] H' fun _ H1 => ∃ (B' : Hp) (xs : List V) (ts : List Tm) (z1 z2 z3 z4 : Option V), [some (.ref d), some (.ref a), some (.int (j : Int)), some (.ref L), y1, y2, y3, some v] = [some (.ref d), some (.ref a), some (.int (j : Int)), some (.ref L), z1, z2, z3, z4] ∧ Nx [d, l] B H B' H1 ∧ Deal B' H1 d l ∧ Mu B' H1 L xs ∧ DpAll K B' xs (ts.map Tm.d) ∧ ts.length + (i + 1) = j + 1 ∧ (∀ t ∈ ts, Drawn ns t) ∧ (ts.map Tm.lv).sum = j + 1 ∧ (ts.map Tm.size).sum ≤ j + 1 + 4 * (i + 1) := by
          intro B' H' v t y1 y2 y3 n' D' m' e' d' dr' lv' sz'
          refine sx_append m' n'.h (by omega) fun H'' n'' m'' => ?_
          refine ⟨B', _, (ts.eraseIdx q).eraseIdx q' ++ [t], _, _, _, _, rfl, Deal.go n' D' n'' (by simp [hL]), D'.up n'' (by simp [offL.1.symm, offL.2.symm]), m'', ?_, ?_, ?_, ?_, ?_⟩
          · rw [List.map_append]
            exact Dps.app (Dps.up e' d6) (.cons d' .nil)
          · rw [List.length_append, List.length_singleton]
            omega
          · intro t' ht
            rcases List.mem_append.mp ht with h | h
            · exact hmem t' h
            · rw [List.mem_singleton] at h
              rw [h]
              exact dr'
          · rw [List.map_append, List.sum_append]
            simp
            omega
          · rw [List.map_append, List.sum_append]
            simp
            omega
        by_cases h10 : r10 = 0
        · refine ifT (int_eqT h10) ?_
          walk_at "sx"
          refine sx_newM n10.h (by simp) fun p11 H11 hp11 n11 m11 => ?_
          have D11 := D10.up n11
          have off11 := D10.off hp11
          refine ⟨B10, d, l, p11, _, rfl, n11.h, D11, m11.sq, off11.1, off11.2, by simp, by simp, fun B12 H12 i12 v12 n12 D12 hv12 => ?_⟩
          have n212 := (Deal.go n210 D10 n11).trans n12 fun b hb _ => D11.in b hb
          obtain ⟨w12, rfl, hw12⟩ : ∃ w : Str, v12 = .str w ∧ w ∈ (["div", "rest"] : List Str) := by
            have hm := List.mem_of_getElem? hv12
            simp only [List.mem_cons, List.not_mem_nil, or_false] at hm
            rcases hm with rfl | rfl <;> exact ⟨_, rfl, by decide +kernel⟩
          walk_at "sx"
          refine sx_newM n12.h (by simp) fun p13 H13 hp13 n13 m13 => ?_
          have D13 := D12.up n13
          have off13 := D12.off hp13
          refine ⟨B12, d, l, p13, _, rfl, n13.h, D13, m13.sq, off13.1, off13.2, by simp, by simp, fun B14 H14 i14 v14 n14 D14 hv14 => ?_⟩
          have n214 := (Deal.go n212 D12 n13).trans n14 fun b hb _ => D13.in b hb
          obtain ⟨z, rfl, hz0, hz1⟩ : ∃ z : Int, v14 = .int z ∧ 0 < z ∧ z < 1000000 := by
            have hm := List.mem_of_getElem? hv14
            simp only [List.mem_cons, List.not_mem_nil, or_false] at hm
            rcases hm with rfl | rfl | rfl | rfl | rfl <;> exact ⟨_, rfl, by decide, by decide⟩
          walk_at "sx"
          have m14 := (((m10.up n11).up n12 (by simp [offL.1, offL.2])).up n13).up n14 (by simp [offL.1, offL.2])
          refine sx_newT (K := K) n14.h (.cons (.str _) (.cons (Dp.up (n10.b.trans (n12.b.trans n14.b)) d9) (.cons (.int z) .nil))) (by simp) fun p15 B15 H15 hp15 n15 d15 => ?_
          have d15 : Dp K B15 (.ref p15) (Tm.cut w12 (.bin w8 ta tb) z).d := d15
          have m15 := m14.up n15
          walk_at "sx"
          refine fin B15 H15 _ (.cut w12 (.bin w8 ta tb) z) _ _ _ (Deal.go n214 D14 n15) (D14.up n15) m15 (n10.b.trans (n12.b.trans (n14.b.trans n15.b))) d15 ⟨⟨rfl, hw12, hz0, hz1, dr9.ok⟩, dr9.fl⟩ rfl (by simp only [Tm.size]; omega)
        · refine ifF (int_eqF h10) ?_
          walk_at "sx"
          refine fin B10 H10 _ (.bin w8 ta tb) _ _ _ n210 D10 m10 n10.b (Dp.up n10.b d9) dr9 rfl (by simp only [Tm.size]; omega)
      · obtain ⟨B2, xs, ts, y1, y2, y3, y4, rfl, n2, D2, m2, d2, l2, dr2, v2, z2⟩ := p
        obtain ⟨t, rfl⟩ : ∃ t, ts = [t] := List.length_eq_one_iff.mp (by omega)
        walk_at "sx"
        cases d2 with
        | cons h1 h2 =>
          cases h2
          refine sx_ixL m2.sq at0 ?_
          have hsz : t.size ≤ j + 1 + 4 * j := by simpa using z2
          exact k B2 H2 _ t n2 D2 h1 (dr2 t (by simp)) (by simpa using v2) (by omega)
end
end C
namespace C
open PySem L2 G
section
variable {P : Program} {w : World} {K : PySem.W.Frag} {mg : Str → Option Value} {base : Heap}
/-! ### tests as drawn -/
structure DrawnC (ns : List Str) (t : Tm) : Prop where
  ok : t.Ok true
  fl : ∀ s ∈ t.flds, s ∈ ns
def spTest (K : PySem.W.Frag) : Sp := fun vs H Q _ => ∃ (B : Hp) (d l a : Addr) (ns : List Str) (j : Nat), vs = [.ref d, .ref a, .int (j : Int)] ∧ Ex B H ∧ Deal B H d l ∧ SqL K H a (ns.map V.str) ∧ a ≠ d ∧ a ≠ l ∧ 0 < ns.length ∧ ns.length < 100 ∧ j ≤ 100 ∧
  ∀ B' H' v t, Nx [d, l] B H B' H' → Deal B' H' d l → Dp K B' v t.d → DrawnC ns t → t.lv ≤ 4 * (j + 1) → t.size ≤ 20 * (j + 1) → Q v H'
theorem cmp_words : ∀ w ∈ (["same", "below"] : List Str), w ∈ (["same", "below"] : List Str) := fun _ h => h
theorem ok_law_test_of (T : Txt w K mg) : Has P w K mg base "_law_test_of" s_law_test_of 5 ["deal", "names", "joins"] (spTest K) := by
  refine has_mk T.d_law_test_of sc_law_test_of (fun _ _ _ _ _ _ us hl => match us, hl with | [_, _, _], _ => rfl) (fun vs H Q E h => ?_) (fun f cdv A outer s H vs Q E hr h => ?_)
  · obtain ⟨_, _, _, _, _, _, rfl, _⟩ := h
    rfl
  · obtain ⟨B, d, l, a, ns, j, rfl, e, hD, hS, ad, al, x0, x1, hj, k⟩ := h
    refine ⟨_, (pss_cons (ps_set (i := 3) sc_law_test_of.nd rfl (.inl rfl) (pe_lst pa_nil))
      (pss_cons (ps_for PassesOwn.never rfl (pi_range1 (by rfl) T.b_range (pa_cons (pe_op op_add (pv 2) pe_int) pa_nil)) (pg_name (i := 4) sc_law_test_of.nd rfl (.inl rfl))
      (pss_cons (ps_set (i := 5) sc_law_test_of.nd rfl (.inl rfl) (pe_tup (pa_cons (pe_callH (ok_law_of T) hr (by rfl) (pa_cons (pv 0) (pa_cons (pe_lst (pa_cons pe_str (pa_cons pe_str pa_nil))) pa_nil))) (pa_cons (pe_callH (ok_law_sum_of T) hr (by rfl) (pa_cons (pv 0) (pa_cons (pv 1) (pa_cons (pe_callH (ok_law_any T) hr (by rfl) (pa_cons (pv 0) (pa_cons pe_int pa_nil))) pa_nil)))) (pa_cons (pe_callH (ok_law_sum_of T) hr (by rfl) (pa_cons (pv 0) (pa_cons (pv 1) (pa_cons (pe_callH (ok_law_any T) hr (by rfl) (pa_cons (pv 0) (pa_cons pe_int pa_nil))) pa_nil)))) pa_nil)))))
      (pss_one (ps_expr (pe_bm PySem.F.plainAttrs_list PySem.F.slot_list_append PySem.F.type_list_append mt_append (pv 3) (pa_cons (pe_ifExp (pt_cmpR op_eq (pe_callH (ok_law_any T) hr (by rfl) (pa_cons (pv 0) (pa_cons pe_int pa_nil))) pe_int (nomark _)) (pe_tup (pa_cons pe_str (pa_cons (pv 5) pa_nil))) (pv 5)) pa_nil))))))
      (pss_cons (ps_for PassesOwn.never rfl (pi_range1 (by rfl) T.b_range (pa_cons (pv 2) pa_nil)) (pg_name (i := 4) sc_law_test_of.nd rfl (.inl rfl))
      (pss_cons (ps_set (i := 6) sc_law_test_of.nd rfl (.inl rfl) (pe_bm PySem.F.plainAttrs_list PySem.F.slot_list_pop PySem.F.type_list_pop mt_popAt (pv 3) (pa_cons (pe_callH (ok_law_any T) hr (by rfl) (pa_cons (pv 0) (pa_cons (pe_callB cl_len (by rfl) T.b_len (by decide +kernel) (pa_cons (pv 3) pa_nil)) pa_nil))) pa_nil)))
      (pss_cons (ps_set (i := 7) sc_law_test_of.nd rfl (.inl rfl) (pe_bm PySem.F.plainAttrs_list PySem.F.slot_list_pop PySem.F.type_list_pop mt_popAt (pv 3) (pa_cons (pe_callH (ok_law_any T) hr (by rfl) (pa_cons (pv 0) (pa_cons (pe_callB cl_len (by rfl) T.b_len (by decide +kernel) (pa_cons (pv 3) pa_nil)) pa_nil))) pa_nil)))
      (pss_cons (ps_set (i := 8) sc_law_test_of.nd rfl (.inl rfl) (pe_tup (pa_cons (pe_callH (ok_law_of T) hr (by rfl) (pa_cons (pv 0) (pa_cons (pe_lst (pa_cons pe_str (pa_cons pe_str pa_nil))) pa_nil))) (pa_cons (pv 6) (pa_cons (pv 7) pa_nil)))))
      (pss_one (ps_expr (pe_bm PySem.F.plainAttrs_list PySem.F.slot_list_append PySem.F.type_list_append mt_append (pv 3) (pa_cons (pe_ifExp (pt_cmpR op_eq (pe_callH (ok_law_any T) hr (by rfl) (pa_cons (pv 0) (pa_cons pe_int pa_nil))) pe_int (nomark _)) (pe_tup (pa_cons pe_str (pa_cons (pv 8) pa_nil))) (pv 8)) pa_nil))))))))
      (pss_one (ps_ret (pe_ix ix_list (pv 3) pe_int (fun _ _ => rfl))))))), ?_⟩
    walk_at "go"
    refine sx_newM e (by simp) fun L H0 hL n0 m0 => ?_
    have offL := hD.off hL
    walk_at "sx"
    walk_at "st"
    walk_at "sx"
    rw [show (j : Int) + 1 = ((j + 1 : Nat) : Int) by omega]
    refine sx_forR_by (by omega) (fun i σ H' => ∃ (B' : Hp) (xs : List V) (ts : List Tm) (y4 y5 y6 y7 y8 : Option V), σ = [some (.ref d), some (.ref a), some (.int (j : Int)), some (.ref L), y4, y5, y6, y7, y8] ∧ Nx [d, l] B H B' H' ∧ Deal B' H' d l ∧ Mu B' H' L xs ∧ DpAll K B' xs (ts.map Tm.d) ∧ ts.length = i ∧ (∀ t ∈ ts, DrawnC ns t) ∧ (ts.map Tm.lv).sum ≤ 4 * i ∧ (ts.map Tm.size).sum ≤ 16 * i) ⟨B, [], [], _, _, _, _, _, rfl, n0.wk (by simp), hD.up n0, m0, .nil, rfl, by simp, by simp, by simp⟩ (fun i σ H2 hi p => ?_) (fun σ H2 p => ?_)
    · obtain ⟨B2, xs, ts, y4, y5, y6, y7, y8, rfl, n2, D2, m2, d2, l2, dr2, v2, z2⟩ := p
      have S2 := n2.sq hS (by simp [ad, al])
      have lx := Dps.len d2
      rw [List.length_map] at lx
      refine sx_gname ?_
      walk_at "st"
      walk_at "sx"
      refine sx_newM n2.h (by simp) fun p3 H3 hp3 n3 m3 => ?_
      have D3 := D2.up n3
      have off3 := D2.off hp3
      refine ⟨B2, d, l, p3, _, rfl, n3.h, D3, m3.sq, off3.1, off3.2, by simp, by simp, fun B4 H4 i4 v4 n4 D4 hv4 => ?_⟩
      have n24 := (Deal.go n2 D2 n3).trans n4 fun b hb _ => D3.in b hb
      obtain ⟨w4, rfl, hw4⟩ : ∃ w : Str, v4 = .str w ∧ w ∈ (["same", "below"] : List Str) := by
        have hm := List.mem_of_getElem? hv4
        simp only [List.mem_cons, List.not_mem_nil, or_false] at hm
        rcases hm with rfl | rfl <;> exact ⟨_, rfl, by decide +kernel⟩
      have m4 := (m2.up n3).up n4 (by simp [offL.1, offL.2])
      walk_at "sx"
      refine ⟨B4, d, l, 2, rfl, n4.h, D4, by omega, by omega, fun B5 H5 r5 n5 D5 r50 r51 => ?_⟩
      have n25 := n24.trans n5 fun b hb _ => D4.in b hb
      have m5 := m4.up n5 (by simp [offL.1, offL.2])
      obtain ⟨q5, rfl⟩ : ∃ q : Nat, r5 = (q : Int) := ⟨r5.toNat, by omega⟩
      walk_at "sx"
      refine ⟨B5, d, l, a, ns, q5, rfl, n5.h, D5, n25.sq hS (by simp [ad, al]), ad, al, x0, x1, by omega, fun B6 H6 va ta n6 D6 dva dra lva zva => ?_⟩
      have n26 := n25.trans n6 fun b hb _ => D5.in b hb
      have m6 := m5.up n6 (by simp [offL.1, offL.2])
      walk_at "sx"
      refine ⟨B6, d, l, 2, rfl, n6.h, D6, by omega, by omega, fun B7 H7 r7 n7 D7 r70 r71 => ?_⟩
      have n27 := n26.trans n7 fun b hb _ => D6.in b hb
      have m7 := m6.up n7 (by simp [offL.1, offL.2])
      obtain ⟨q7, rfl⟩ : ∃ q : Nat, r7 = (q : Int) := ⟨r7.toNat, by omega⟩
      walk_at "sx"
      refine ⟨B7, d, l, a, ns, q7, rfl, n7.h, D7, n27.sq hS (by simp [ad, al]), ad, al, x0, x1, by omega, fun B8 H8 vb tb n8 D8 dvb drb lvb zvb => ?_⟩
      have n28 := n27.trans n8 fun b hb _ => D7.in b hb
      have m8 := m7.up n8 (by simp [offL.1, offL.2])
      walk_at "sx"
      refine sx_newT (K := K) n8.h (.cons (.str _) (.cons (Dp.up (n7.b.trans n8.b) dva) (.cons dvb .nil))) (by simp) fun p9 B9 H9 hp9 n9 d9 => ?_
      have d9 : Dp K B9 (.ref p9) (Tm.bin w4 ta tb).d := d9
      have D9 := D8.up n9
      have n29 := Deal.go n28 D8 n9
      have m9 := m8.up n9
      have dr9 : DrawnC ns (.bin w4 ta tb) := ⟨.inr (.inl ⟨rfl, hw4, dra.ok, drb.ok⟩), fun s hs => by
        simp only [Tm.flds, List.mem_append] at hs
        rcases hs with h | h
        · exact dra.fl s h
        · exact drb.fl s h⟩
      have d9s : DpAll K B9 xs (ts.map Tm.d) := Dps.up (n4.b.trans (n5.b.trans (n6.b.trans (n7.b.trans (n8.b.trans n9.b))))) d2
      walk_at "sx"
      walk_at "st"
      walk_at "sx"
      refine ⟨B9, d, l, 4, rfl, n9.h, D9, by omega, by omega, fun B10 H10 r10 n10 D10 r100 r101 => ?_⟩
      have n210 := n29.trans n10 fun b hb _ => D9.in b hb
      have m10 := m9.up n10 (by simp [offL.1, offL.2])
      walk_at "sx"
      have fin : ∀ (B' H' : Hp) (v x5 : V) (t : Tm), Nx [d, l] B H B' H' → Deal B' H' d l → Mu B' H' L xs → Ex B9 B' → Dp K B' v t.d → DrawnC ns t → t.lv = ta.lv + tb.lv → t.size ≤ ta.size + tb.size + 4 →
          rAppend (.ref L) [v] H' fun _ H1 => ∃ (B' : Hp) (xs : List V) (ts : List Tm) (z4 z5 z6 z7 z8 : Option V), [some (.ref d), some (.ref a), some (.int (j : Int)), some (.ref L), some (.int (i : Int)), some x5, y6, y7, y8] = [some (.ref d), some (.ref a), some (.int (j : Int)), some (.ref L), z4, z5, z6, z7, z8] ∧ Nx [d, l] B H B' H1 ∧ Deal B' H1 d l ∧ Mu B' H1 L xs ∧ DpAll K B' xs (ts.map Tm.d) ∧ ts.length = i + 1 ∧ (∀ t ∈ ts, DrawnC ns t) ∧ (ts.map Tm.lv).sum ≤ 4 * (i + 1) ∧ (ts.map Tm.size).sum ≤ 16 * (i + 1) := by
        intro B' H' v x5 t n' D' m' e' d' dr' lv' sz'
        refine sx_append m' n'.h (by omega) fun H'' n'' m'' => ?_
        refine ⟨B', _, ts ++ [t], _, _, _, _, _, rfl, Deal.go n' D' n'' (by simp [hL]), D'.up n'' (by simp [offL.1.symm, offL.2.symm]), m'', ?_, ?_, ?_, ?_, ?_⟩
        · rw [List.map_append]
          exact Dps.app (Dps.up e' d9s) (.cons d' .nil)
        · rw [List.length_append, List.length_singleton]
          omega
        · intro t' ht
          rcases List.mem_append.mp ht with h | h
          · exact dr2 t' h
          · rw [List.mem_singleton] at h
            rw [h]
            exact dr'
        · rw [List.map_append, List.sum_append]
          simp
          omega
        · rw [List.map_append, List.sum_append]
          simp
          omega
      by_cases h10 : r10 = 0
      · refine ifT (int_eqT h10) ?_
        walk_at "sx"
        refine sx_newT (K := K) n10.h (.cons (.str "not") (.cons (Dp.up n10.b d9) .nil)) (by simp) fun p11 B11 H11 hp11 n11 d11 => ?_
        have d11 : Dp K B11 (.ref p11) (Tm.neg (.bin w4 ta tb)).d := d11
        walk_at "sx"
        refine fin B11 H11 _ _ (.neg (.bin w4 ta tb)) (Deal.go n210 D10 n11) (D10.up n11) (m10.up n11) (n10.b.trans n11.b) d11 ⟨⟨rfl, dr9.ok⟩, dr9.fl⟩ rfl (by simp only [Tm.size]; omega)
      · refine ifF (int_eqF h10) ?_
        walk_at "sx"
        refine fin B10 H10 _ _ (.bin w4 ta tb) n210 D10 m10 n10.b (Dp.up n10.b d9) dr9 rfl (by simp only [Tm.size]; omega)
    · obtain ⟨B2, xs, ts, y4, y5, y6, y7, y8, rfl, n2, D2, m2, d2, l2, dr2, v2, z2⟩ := p
      walk_at "sx"
      refine sx_forR_by (by omega) (fun i σ H' => ∃ (B' : Hp) (xs : List V) (ts : List Tm) (y4 y5 y6 y7 y8 : Option V), σ = [some (.ref d), some (.ref a), some (.int (j : Int)), some (.ref L), y4, y5, y6, y7, y8] ∧ Nx [d, l] B H B' H' ∧ Deal B' H' d l ∧ Mu B' H' L xs ∧ DpAll K B' xs (ts.map Tm.d) ∧ ts.length + i = j + 1 ∧ (∀ t ∈ ts, DrawnC ns t) ∧ (ts.map Tm.lv).sum ≤ 4 * (j + 1) ∧ (ts.map Tm.size).sum ≤ 16 * (j + 1) + 4 * i) ⟨B2, xs, ts, _, _, _, _, _, rfl, n2, D2, m2, d2, by omega, dr2, v2, by omega⟩ (fun i σ H2 hi p => ?_) (fun σ H2 p => ?_)
      · obtain ⟨B2, xs, ts, y4, y5, y6, y7, y8, rfl, n2, D2, m2, d2, l2, dr2, v2, z2⟩ := p
        have lx := Dps.len d2
        rw [List.length_map] at lx
        refine sx_gname ?_
        walk_at "st"
        walk_at "sx"
        refine ⟨B2, d, l, _, rfl, n2.h, D2, by omega, by omega, fun B3 H3 r n3 D3 r0 r1 => ?_⟩
        have n23 := n2.trans n3 fun b hb _ => D2.in b hb
        have m3 := m2.up n3 (by simp [offL.1, offL.2])
        obtain ⟨q, rfl⟩ : ∃ q : Nat, r = (q : Int) := ⟨r.toNat, by omega⟩
        obtain ⟨va, ta, hva, hta, dva⟩ := pick_d d2 (i := q) (by omega)
        walk_at "sx"
        refine sx_popAt m3 n3.h hva (by omega) fun H4 n4 m4 => ?_
        have D4 := D3.up n4 (by simp [offL.1.symm, offL.2.symm])
        have n24 := Deal.go n23 D3 n4 (by simp [hL])
        walk_at "sx"
        walk_at "st"
        walk_at "sx"
        have le1 : (xs.eraseIdx q).length + 1 = xs.length := by rw [List.length_eraseIdx]; split <;> omega
        refine ⟨B3, d, l, _, rfl, n4.h, D4, by omega, by omega, fun B5 H5 r' n5 D5 r0' r1' => ?_⟩
        have n25 := n24.trans n5 fun b hb _ => D4.in b hb
        have m5 := m4.up n5 (by simp [offL.1, offL.2])
        obtain ⟨q', rfl⟩ : ∃ q : Nat, r' = (q : Int) := ⟨r'.toNat, by omega⟩
        have d3 : DpAll K B3 (xs.eraseIdx q) ((ts.eraseIdx q).map Tm.d) := by
          rw [map_erase]
          exact Dps.erase (Dps.up n3.b d2)
        have le2 : (ts.eraseIdx q).length = (xs.eraseIdx q).length := by
          have := Dps.len d3
          rw [List.length_map] at this
          exact this.symm
        obtain ⟨vb, tb, hvb, htb, dvb⟩ := pick_d d3 (i := q') (by omega)
        have dra := dr2 ta (List.mem_of_getElem? hta)
        have drb := dr2 tb (mem_of_erase (List.mem_of_getElem? htb))
        walk_at "sx"
        refine sx_popAt m5 n5.h hvb (by omega) fun H6 n6 m6 => ?_
        have D6 := D5.up n6 (by simp [offL.1.symm, offL.2.symm])
        have n26 := Deal.go n25 D5 n6 (by simp [hL])
        walk_at "sx"
        walk_at "st"
        walk_at "sx"
        refine sx_newM n6.h (by simp) fun p7 H7 hp7 n7 m7 => ?_
        have D7 := D6.up n7
        have off7 := D6.off hp7
        refine ⟨B5, d, l, p7, _, rfl, n7.h, D7, m7.sq, off7.1, off7.2, by simp, by simp, fun B8 H8 i8 v8 n8 D8 hv8 => ?_⟩
        have n28 := (Deal.go n26 D6 n7).trans n8 fun b hb _ => D7.in b hb
        obtain ⟨w8, rfl, hw8⟩ : ∃ w : Str, v8 = .str w ∧ w ∈ (["and", "or"] : List Str) := by
          have hm := List.mem_of_getElem? hv8
          simp only [List.mem_cons, List.not_mem_nil, or_false] at hm
          rcases hm with rfl | rfl <;> exact ⟨_, rfl, by decide +kernel⟩
        have m8 := (m6.up n7).up n8 (by simp [offL.1, offL.2])
        walk_at "sx"
        have dva8 : Dp K B8 va ta.d := Dp.up (n3.b.trans (n5.b.trans n8.b)) dva
        have dvb8 : Dp K B8 vb tb.d := Dp.up (n5.b.trans n8.b) dvb
        refine sx_newT (K := K) n8.h (.cons (.str _) (.cons dva8 (.cons dvb8 .nil))) (by simp) fun p9 B9 H9 hp9 n9 d9 => ?_
        have d9 : Dp K B9 (.ref p9) (Tm.bin w8 ta tb).d := d9
        have D9 := D8.up n9
        have n29 := Deal.go n28 D8 n9
        have m9 := m8.up n9
        have dr9 : DrawnC ns (.bin w8 ta tb) := ⟨.inr (.inr ⟨rfl, hw8, dra.ok, drb.ok⟩), fun s hs => by
          simp only [Tm.flds, List.mem_append] at hs
          rcases hs with h | h
          · exact dra.fl s h
          · exact drb.fl s h⟩
        have lvs : ((((ts.eraseIdx q).eraseIdx q').map Tm.lv).sum + tb.lv) + ta.lv ≤ 4 * (j + 1) := by rw [sum_erase Tm.lv htb, sum_erase Tm.lv hta]; exact v2
        have szs : ((((ts.eraseIdx q).eraseIdx q').map Tm.size).sum + tb.size) + ta.size ≤ 16 * (j + 1) + 4 * i := by rw [sum_erase Tm.size htb, sum_erase Tm.size hta]; exact z2
        have le3 : ((ts.eraseIdx q).eraseIdx q').length + 1 = (ts.eraseIdx q).length := by rw [List.length_eraseIdx]; split <;> omega
        have d6 : DpAll K B9 ((xs.eraseIdx q).eraseIdx q') (((ts.eraseIdx q).eraseIdx q').map Tm.d) := by
          rw [map_erase]
          exact Dps.erase (Dps.up (n5.b.trans (n8.b.trans n9.b)) d3)
        have lx6 := Dps.len d6
        rw [List.length_map] at lx6
        have hmem : ∀ t ∈ (ts.eraseIdx q).eraseIdx q', DrawnC ns t := fun t ht => dr2 t (mem_of_erase (mem_of_erase ht))
        walk_at "sx"
        walk_at "st"
        walk_at "sx"
        refine ⟨B9, d, l, 4, rfl, n9.h, D9, by omega, by omega, fun B10 H10 r10 n10 D10 r100 r101 => ?_⟩
        have n210 := n29.trans n10 fun b hb _ => D9.in b hb
        have m10 := m9.up n10 (by simp [offL.1, offL.2])
        walk_at "sx"
        have fin : ∀ (B' H' : Hp) (v : V) (t : Tm) (y4 y5 y6 y7 y8 : Option V), Nx [d, l] B H B' H' → Deal B' H' d l → Mu B' H' L ((xs.eraseIdx q).eraseIdx q') → Ex B9 B' → Dp K B' v t.d → DrawnC ns t → t.lv = ta.lv + tb.lv → t.size ≤ ta.size + tb.size + 4 →
            rAppend (.ref L) [v] H' fun _ H1 => ∃ (B' : Hp) (xs : List V) (ts : List Tm) (z4 z5 z6 z7 z8 : Option V), [some (.ref d), some (.ref a), some (.int (j : Int)), some (.ref L), y4, y5, y6, y7, y8] = [some (.ref d), some (.ref a), some (.int (j : Int)), some (.ref L), z4, z5, z6, z7, z8] ∧ Nx [d, l] B H B' H1 ∧ Deal B' H1 d l ∧ Mu B' H1 L xs ∧ DpAll K B' xs (ts.map Tm.d) ∧ ts.length + (i + 1) = j + 1 ∧ (∀ t ∈ ts, DrawnC ns t) ∧ (ts.map Tm.lv).sum ≤ 4 * (j + 1) ∧ (ts.map Tm.size).sum ≤ 16 * (j + 1) + 4 * (i + 1) := by
          intro B' H' v t y4 y5 y6 y7 y8 n' D' m' e' d' dr' lv' sz'
          refine sx_append m' n'.h (by omega) fun H'' n'' m'' => ?_
          refine ⟨B', _, (ts.eraseIdx q).eraseIdx q' ++ [t], _, _, _, _, _, rfl, Deal.go n' D' n'' (by simp [hL]), D'.up n'' (by simp [offL.1.symm, offL.2.symm]), m'', ?_, ?_, ?_, ?_, ?_⟩
          · rw [List.map_append]
            exact Dps.app (Dps.up e' d6) (.cons d' .nil)
          · rw [List.length_append, List.length_singleton]
            omega
          · intro t' ht
            rcases List.mem_append.mp ht with h | h
            · exact hmem t' h
            · rw [List.mem_singleton] at h
              rw [h]
              exact dr'
          · rw [List.map_append, List.sum_append]
            simp
            omega
          · rw [List.map_append, List.sum_append]
            simp
            omega
        by_cases h10 : r10 = 0
        · refine ifT (int_eqT h10) ?_
          walk_at "sx"
          refine sx_newT (K := K) n10.h (.cons (.str "not") (.cons (Dp.up n10.b d9) .nil)) (by simp) fun p11 B11 H11 hp11 n11 d11 => ?_
          have d11 : Dp K B11 (.ref p11) (Tm.neg (.bin w8 ta tb)).d := d11
          walk_at "sx"
          refine fin B11 H11 _ (.neg (.bin w8 ta tb)) _ _ _ _ _ (Deal.go n210 D10 n11) (D10.up n11) (m10.up n11) (n10.b.trans n11.b) d11 ⟨⟨rfl, dr9.ok⟩, dr9.fl⟩ rfl (by simp only [Tm.size]; omega)
        · refine ifF (int_eqF h10) ?_
          walk_at "sx"
          refine fin B10 H10 _ (.bin w8 ta tb) _ _ _ _ _ n210 D10 m10 n10.b (Dp.up n10.b d9) dr9 rfl (by simp only [Tm.size]; omega)
      · obtain ⟨B2, xs, ts, y4, y5, y6, y7, y8, rfl, n2, D2, m2, d2, l2, dr2, v2, z2⟩ := p
        obtain ⟨t, rfl⟩ : ∃ t, ts = [t] := List.length_eq_one_iff.mp (by omega)
        walk_at "sx"
        cases d2 with
        | cons h1 h2 =>
          cases h2
          refine sx_ixL m2.sq at0 ?_
          have hsz : t.size ≤ 16 * (j + 1) + 4 * j := by simpa using z2
          exact k B2 H2 _ t n2 D2 h1 (dr2 t (by simp)) (by simpa using v2) (by omega)
end
end C
namespace C
open PySem L2 G
section
variable {P : Program} {w : World} {K : PySem.W.Frag} {mg : Str → Option Value} {base : Heap}
/-! ### right trees are right data -/
theorem w_ne : ("condition" : Str) ≠ "expression" := by decide +kernel
theorem parts_e {ns : List Str} {w : Str} {ds : List PyData} : partsP ns "expression" w ds = exprP ns w ds := if_pos rfl
theorem parts_c {ns : List Str} {w : Str} {ds : List PyData} : partsP ns "condition" w ds = condP w ds := if_neg w_ne
theorem by_parts {ns : List Str} {s w : Str} {ds ps : List PyData} (h : partsP ns s w ds = some ps) (k : ps.all (rightD ns) = true) : rightD ns (srt s (.tuple (.str w :: ds))) = true := by
  rw [rightD_parts, h]
  exact k
theorem w_two : ∀ w ∈ (["plus", "less", "times", "min", "max"] : List Str), w ∉ (["number", "field"] : List Str) := by decide +kernel
theorem w_cut : ∀ w ∈ (["div", "rest"] : List Str), w ∉ (["number", "field"] : List Str) ∧ w ∉ (["plus", "less", "times", "min", "max"] : List Str) := by decide +kernel
theorem w_cmp : ∀ w ∈ (["same", "below"] : List Str), w ≠ "not" ∧ w ∈ (["same", "below", "and", "or"] : List Str) := by decide +kernel
theorem w_and : ∀ w ∈ (["and", "or"] : List Str), w ≠ "not" ∧ w ∈ (["same", "below", "and", "or"] : List Str) ∧ w ∉ (["same", "below"] : List Str) := by decide +kernel
theorem tm_right {ns : List Str} : ∀ (t : Tm) (c : Bool), t.Ok c → (∀ s ∈ t.flds, s ∈ ns) → rightD ns (srt (if c = true then "condition" else "expression") t.d) = true
  | .num i, c, h, _ => by
    obtain ⟨rfl, _⟩ := h
    refine by_parts (ps := []) ?_ rfl
    rw [if_neg Bool.false_ne_true, parts_e, exprP, if_pos (by decide +kernel)]
    simp [plainP, isIntg, isInt, isBool]
  | .fld s, c, h, hf => by
    have h : c = false := h
    subst h
    refine by_parts (ps := []) ?_ rfl
    rw [if_neg Bool.false_ne_true, parts_e, exprP, if_pos (by decide +kernel)]
    have : ("field" : Str) ≠ "number" := by decide +kernel
    have hs : s ∈ ns := hf s (by simp [Tm.flds])
    show (if ("field" : Str) = "number" then (if isIntg (.str s) then some [] else none) else (if s ∈ ns then some [] else none)) = some []
    rw [if_neg this, if_pos hs]
  | .bin w a b, c, h, hf => by
    have hfa : ∀ s ∈ a.flds, s ∈ ns := fun s hs => hf s (by simp [Tm.flds, hs])
    have hfb : ∀ s ∈ b.flds, s ∈ ns := fun s hs => hf s (by simp [Tm.flds, hs])
    rcases h with ⟨rfl, hw, ha, hb⟩ | ⟨rfl, hw, ha, hb⟩ | ⟨rfl, hw, ha, hb⟩
    · refine by_parts (ps := [srt "expression" a.d, srt "expression" b.d]) ?_ ?_
      · rw [if_neg Bool.false_ne_true, parts_e, exprP, if_neg (w_two w hw), if_pos hw]
        rfl
      · have r1 := tm_right a false ha hfa
        have r2 := tm_right b false hb hfb
        rw [if_neg Bool.false_ne_true] at r1 r2
        simp [r1, r2]
    · refine by_parts (ps := [srt "expression" a.d, srt "expression" b.d]) ?_ ?_
      · rw [if_pos rfl, parts_c, condP, if_neg (w_cmp w hw).1, if_pos (w_cmp w hw).2]
        show (if w ∈ (["same", "below"] : List Str) then some [srt "expression" a.d, srt "expression" b.d] else some [srt "condition" a.d, srt "condition" b.d]) = _
        rw [if_pos hw]
      · have r1 := tm_right a false ha hfa
        have r2 := tm_right b false hb hfb
        rw [if_neg Bool.false_ne_true] at r1 r2
        simp [r1, r2]
    · refine by_parts (ps := [srt "condition" a.d, srt "condition" b.d]) ?_ ?_
      · rw [if_pos rfl, parts_c, condP, if_neg (w_and w hw).1, if_pos (w_and w hw).2.1]
        show (if w ∈ (["same", "below"] : List Str) then some [srt "expression" a.d, srt "expression" b.d] else some [srt "condition" a.d, srt "condition" b.d]) = _
        rw [if_neg (w_and w hw).2.2]
      · have r1 := tm_right a true ha hfa
        have r2 := tm_right b true hb hfb
        rw [if_pos rfl] at r1 r2
        simp [r1, r2]
  | .cut w a n, c, h, hf => by
    obtain ⟨rfl, hw, n0, n1, ha⟩ := h
    refine by_parts (ps := [srt "expression" a.d]) ?_ ?_
    · rw [if_neg Bool.false_ne_true, parts_e, exprP, if_neg (w_cut w hw).1, if_neg (w_cut w hw).2, if_pos hw]
      show (if isPos (.int n) then some [srt "expression" a.d] else none) = _
      have hp : isPos (.int n) = true := decide_eq_true n0
      rw [if_pos hp]
    · have r1 := tm_right a false ha hf
      rw [if_neg Bool.false_ne_true] at r1
      simp [r1]
  | .neg a, c, h, hf => by
    obtain ⟨rfl, ha⟩ := h
    refine by_parts (ps := [srt "condition" a.d]) ?_ ?_
    · rw [if_pos rfl, parts_c, condP, if_pos rfl]
      rfl
    · have r1 := tm_right a true ha hf
      rw [if_pos rfl] at r1
      simp [r1]
theorem Drawn.right {ns : List Str} {t : Tm} (h : Drawn ns t) : rightD ns (srt "expression" t.d) = true := by
  have := tm_right t false h.ok h.fl
  rwa [if_neg Bool.false_ne_true] at this
theorem Tm.szD_le : ∀ t : Tm, szD t.d ≤ 3 * t.size
  | .num i => by simp [Tm.d, szD, szDs, Tm.size]
  | .fld s => by simp [Tm.d, szD, szDs, Tm.size]
  | .bin w a b => by
    have h1 := Tm.szD_le a
    have h2 := Tm.szD_le b
    simp [Tm.d, szD, szDs, Tm.size]
    omega
  | .cut w a n => by
    have h1 := Tm.szD_le a
    simp [Tm.d, szD, szDs, Tm.size]
    omega
  | .neg a => by
    have h1 := Tm.szD_le a
    simp [Tm.d, szD, szDs, Tm.size]
    omega
end
end C
namespace C
open PySem L2 G
section
variable {P : Program} {w : World} {K : PySem.W.Frag} {mg : Str → Option Value} {base : Heap}
/-! ### helpers of the laws -/
theorem ifB {A B' C : Prop} {b : Bool} (h : C) (hA : C → A) (hB : C → B') : if b = true then A else B' := by
  cases b
  · exact hB h
  · exact hA h
theorem pair_ok {K : PySem.W.Frag} {B : Hp} {p : Addr} {d : PyData} (h : Dp K B (.ref p) (.tuple [d, d])) (f : flatD d = true) (z : szD d ≤ 50000) : PairOk K B (.ref p) := by
  obtain ⟨a, xs, ea, hs, hd⟩ := Dp.tup_v h
  cases ea
  cases hd with
  | cons h1 t => cases t with
    | cons h2 t => cases t with
      | nil => exact ⟨_, _, _, d, rfl, hs, h1, h2, f, z⟩
theorem sx_par3 {i j l : Nat} {ta : TA} {D : Ends} {σ : L2.St} {H : Hp} (q : ta σ H fun vs H1 => ∃ u v w, vs = [u, v, w] ∧ D.nx (((σ.set i (some u)).set j (some v)).set l (some w)) H1) : tPar3 i j l ta D σ H := q
theorem sx_par32 {x y z : V} {Q : V → V → V → Prop} (q : Q x y z) : ∃ u v w, [x, y, z] = [u, v, w] ∧ Q u v w := ⟨x, y, z, rfl, q⟩
theorem sx_chain {r r' : R2} {ta tb tc : TE} {σ : L2.St} {H : Hp} {Q : VK} (q : ta σ H fun x H1 => tb σ H1 fun y H2 => r x y H2 fun z H3 => ∃ k, z = .bl k ∧ (if k = true then tc σ H3 fun w' H4 => r' y w' H4 Q else Q (.bl false) H3)) : tChain r r' ta tb tc σ H Q := q
theorem pair_i {K : PySem.W.Frag} {B : Hp} {p : Addr} {i j : Int} (h : Dp K B (.ref p) (.tuple [.int i, .int j])) (z : i = j) : PairOk K B (.ref p) := by
  subst z
  exact pair_ok h rfl (by show 1 ≤ 50000; decide)
theorem pair_b {K : PySem.W.Frag} {B : Hp} {p : Addr} {i j : Bool} (h : Dp K B (.ref p) (.tuple [.bool i, .bool j])) (z : i = j) : PairOk K B (.ref p) := by
  subst z
  exact pair_ok h rfl (by show 1 ≤ 50000; decide)
def spLaw (K : PySem.W.Frag) : Sp := fun vs H Q _ => ∃ (a : Addr) (ns : List Int), vs = [.ref a] ∧ SqL K H a (ns.map V.int) ∧ ns.length ≤ 63 ∧ ∀ H', Q (.bl true) H'
end
end C
namespace C
open PySem L2 G
section
variable {P : Program} {w : World} {K : PySem.W.Frag} {mg : Str → Option Value} {base : Heap}
/-! ### t + u of any tuples; t[:n], t[n:] -/
def rCatE (K : PySem.W.Frag) : R2 := fun x y H Q => ∃ a b xs ys, x = .ref a ∧ y = .ref b ∧ SqT K H a xs ∧ SqT K H b ys ∧ xs.length + ys.length ≤ sizeLine ∧
  (xs = [] → Q (.ref b) H) ∧ (xs ≠ [] → ys = [] → Q (.ref a) H) ∧ (xs ≠ [] → ys ≠ [] → ∀ p, H p = none → Q (.ref p) (upd H p (.tup (xs ++ ys))))
theorem op_catE {X : Cx} : OpR X (binaryOp .Add) (rCatE X.K) := by
  intro pins s σ H x y v u Q I rx ry h
  obtain ⟨a, b, xs, ys, ex, ey, ha, hb, hz, q0, q1, q2⟩ := h
  by_cases hx : xs = []
  · subst ex ey
    cases rx
    cases ry
    obtain ⟨its, r1, p1, _⟩ := I.tuple ha
    obtain ⟨its2, r2, p2, _⟩ := I.tuple hb
    have hv : its = [] := r1.nil_iff.mpr hx
    obtain ⟨o1, g1, c1, n1, d1⟩ := p1
    obtain ⟨o2, g2, c2, n2, d2⟩ := p2
    obtain ⟨cls, dd, data, sl⟩ := o1
    obtain ⟨cls2, dd2, data2, sl2⟩ := o2
    simp only at c1 d1 c2 d2
    subst c1 d1 c2 d2
    have hm := _root_.PyProof.Rows.tuple_addW0 a b its.toArray its2.toArray n1 n2 dd dd2 sl sl2 (by rw [hv]; rfl)
    exact concat_meets ⟨_, g1, rfl⟩ ⟨_, g2, rfl⟩ noFill_tuple_add seq_tuple_add PySem.F.slot_tuple_add PySem.F.entry_tuple_add (PySem.F.args_tuple_add_2 _ _)
      hm ⟨g1, g2, ⟨.ref b, H, I, rfl, q0 hx⟩⟩
  · exact op_catT pins s σ H x y v u Q I rx ry ⟨a, b, xs, ys, ex, ey, ha, hb, hx, hz, fun z => q1 hx z, fun z => q2 hx z⟩
theorem sx_catE {K : PySem.W.Frag} {B H : Hp} {Q : VK} {x y : V} {ds es : List PyData} (e : Ex B H) (h1 : Dp K B x (.tuple ds)) (h2 : Dp K B y (.tuple es)) (hz : ds.length + es.length ≤ 100000)
    (q : ∀ v B' H', Nx [] B H B' H' → Dp K B' v (.tuple (ds ++ es)) → Q v H') : rCatE K x y H Q := by
  obtain ⟨a, xs, rfl, hs, hd⟩ := Dp.tup_v h1
  obtain ⟨b, ys, rfl, hs2, hd2⟩ := Dp.tup_v h2
  have l1 := Dps.len hd
  have l2 := Dps.len hd2
  refine ⟨a, b, xs, ys, rfl, rfl, e.t hs, e.t hs2, sz_of (by rw [l1, l2]; exact hz), fun z => ?_, fun _ z => ?_, fun _ _ p hp => ?_⟩
  · subst z
    have : ds = [] := List.length_eq_zero_iff.mp l1.symm
    subst this
    exact q _ B H (Nx.refl e) h2
  · subst z
    have : es = [] := List.length_eq_zero_iff.mp l2.symm
    subst this
    exact q _ B H (Nx.refl e) (by rw [List.append_nil]; exact h1)
  · exact q _ (upd B p (.tup (xs ++ ys))) _ (Nx.new e hp) (.tup (SqT.of upd_same) (Dps.up (Ex.new (e.free hp)) (Dps.app hd hd2)))
theorem cut_from (xs : List V) (n : Nat) : cutV xs (some (n : Int)) none = xs.drop n := by
  unfold cutV
  rw [show HT.sIx xs.length 0 (some (n : Int)) = min n xs.length from HT.sIx_nat xs.length 0 n, HT.sIx_none]
  by_cases h : n ≤ xs.length
  · rw [Nat.min_eq_left h, List.take_of_length_le (by rw [List.length_drop]; exact Nat.le_refl _)]
  · rw [Nat.min_eq_right (by omega), List.drop_of_length_le (Nat.le_refl _), List.drop_of_length_le (by omega)]
    exact List.take_nil
theorem sx_slTo {K : PySem.W.Frag} {B H : Hp} {Q : VK} {x : V} {ds : List PyData} {n : Nat} (h : Dp K B x (.tuple ds)) (e : Ex B H) (hn : n < ds.length) (q : ∀ p B' H', H p = none → Nx [] B H B' H' → Dp K B' (.ref p) (.tuple (ds.take n)) → Q (.ref p) H') : rSlT K x none (some (n : Int)) H Q := by
  obtain ⟨a, xs, rfl, hs, hd⟩ := Dp.tup_v h
  have hl := Dps.len hd
  refine ⟨a, xs, rfl, e.t hs, fun z => ?_, fun p hp => ?_⟩
  · have := z.2
    rw [show HT.sIx xs.length xs.length (some (n : Int)) = min n xs.length from HT.sIx_nat xs.length xs.length n, hl] at this
    omega
  · rw [cut_to]
    exact q p (upd B p (.tup (xs.take n))) _ hp (Nx.new e hp) (.tup (SqT.of upd_same) (Dps.up (Ex.new (e.free hp)) (Dps.take n hd)))
theorem sx_slFrom {K : PySem.W.Frag} {B H : Hp} {Q : VK} {x : V} {ds : List PyData} {n : Nat} (h : Dp K B x (.tuple ds)) (e : Ex B H) (hn : 0 < n) (h0 : 0 < ds.length) (q : ∀ p B' H', H p = none → Nx [] B H B' H' → Dp K B' (.ref p) (.tuple (ds.drop n)) → Q (.ref p) H') : rSlT K x (some (n : Int)) none H Q := by
  obtain ⟨a, xs, rfl, hs, hd⟩ := Dp.tup_v h
  have hl := Dps.len hd
  refine ⟨a, xs, rfl, e.t hs, fun z => ?_, fun p hp => ?_⟩
  · have := z.1
    rw [show HT.sIx xs.length 0 (some (n : Int)) = min n xs.length from HT.sIx_nat xs.length 0 n, hl] at this
    omega
  · rw [cut_from]
    exact q p (upd B p (.tup (xs.drop n))) _ hp (Nx.new e hp) (.tup (SqT.of upd_same) (Dps.up (Ex.new (e.free hp)) (Dps.drop n hd)))
/-! ### places in trees -/
def Tm.kid : Tm → Nat → Option Tm
  | .bin _ a _, 1 => some a
  | .bin _ _ b, 2 => some b
  | .cut _ a _, 1 => some a
  | .neg a, 1 => some a
  | _, _ => none
def Tm.arity : Tm → Nat
  | .num _ => 2
  | .fld _ => 2
  | .bin _ _ _ => 3
  | .cut _ _ _ => 3
  | .neg _ => 2
/-- the things of it -/
theorem Tm.ds (t : Tm) : ∃ ds, t.d = .tuple ds ∧ ds.length = t.arity ∧ ds[0]? = some (.str (fst t)) ∧ ∀ i d, 0 < i → ds[i]? = some d → (∃ u, t.kid i = some u ∧ d = u.d) ∨ (t.kid i = none ∧ isTup d = false) := by
  cases t with
  | num n =>
    refine ⟨_, rfl, rfl, rfl, fun i d h0 hd => ?_⟩
    match i, h0, hd with
    | 1, _, hd => cases hd; exact .inr ⟨rfl, rfl⟩
    | i + 2, _, hd => simp at hd
  | fld n =>
    refine ⟨_, rfl, rfl, rfl, fun i d h0 hd => ?_⟩
    match i, h0, hd with
    | 1, _, hd => cases hd; exact .inr ⟨rfl, rfl⟩
    | i + 2, _, hd => simp at hd
  | bin w a b =>
    refine ⟨_, rfl, rfl, rfl, fun i d h0 hd => ?_⟩
    match i, h0, hd with
    | 1, _, hd => cases hd; exact .inl ⟨_, rfl, rfl⟩
    | 2, _, hd => cases hd; exact .inl ⟨_, rfl, rfl⟩
    | i + 3, _, hd => simp at hd
  | cut w a n =>
    refine ⟨_, rfl, rfl, rfl, fun i d h0 hd => ?_⟩
    match i, h0, hd with
    | 1, _, hd => cases hd; exact .inl ⟨_, rfl, rfl⟩
    | 2, _, hd => cases hd; exact .inr ⟨rfl, rfl⟩
    | i + 3, _, hd => simp at hd
  | neg a =>
    refine ⟨_, rfl, rfl, rfl, fun i d h0 hd => ?_⟩
    match i, h0, hd with
    | 1, _, hd => cases hd; exact .inl ⟨_, rfl, rfl⟩
    | i + 2, _, hd => simp at hd
/-- the way to a part -/
inductive Path : Tm → List Nat → Tm → Prop
  | nil (t : Tm) : Path t [] t
  | cons {t u v : Tm} {n : Nat} {p : List Nat} (h : t.kid n = some u) (r : Path u p v) : Path t (n :: p) v
theorem Path.app {t u v : Tm} {p q : List Nat} (h : Path t p u) (k : Path u q v) : Path t (p ++ q) v := by
  induction h with
  | nil t => exact k
  | cons h r ih => exact .cons h (ih k)
theorem kid_size {t u : Tm} {n : Nat} (h : t.kid n = some u) : u.size + 2 ≤ t.size := by
  unfold Tm.kid at h
  split at h
  all_goals first
    | (cases h; simp only [Tm.size]; omega)
    | cases h
theorem kid_pos {t u : Tm} {n : Nat} (h : t.kid n = some u) : 0 < n ∧ n < t.arity := by
  unfold Tm.kid at h
  split at h
  all_goals first
    | (cases h; simp only [Tm.arity]; omega)
    | cases h
/-- one of its things exchanged -/
def put (d : PyData) (n : Nat) (x : PyData) : PyData := match d with
  | .tuple ds => .tuple (ds.take n ++ ([x] ++ ds.drop (n + 1)))
  | d => d
def Tm.exch : Tm → List Nat → PyData → PyData
  | _, [], x => x
  | t, n :: p, x => match t.kid n with
    | some u => put t.d n (u.exch p x)
    | none => x
/-- a wrong thing makes all wrong -/
def srtOf (c : Bool) : Str := if c = true then "condition" else "expression"
theorem parts_bin {ns : List Str} {w : Str} {a b : Tm} {c : Bool} (h : (Tm.bin w a b).Ok c) : ∃ c1, a.Ok c1 ∧ b.Ok c1 ∧ ∀ x y, partsP ns (srtOf c) w [x, y] = some [srt (srtOf c1) x, srt (srtOf c1) y] := by
  rcases h with ⟨rfl, hw, ha, hb⟩ | ⟨rfl, hw, ha, hb⟩ | ⟨rfl, hw, ha, hb⟩
  · refine ⟨false, ha, hb, fun x y => ?_⟩
    show partsP ns "expression" w [x, y] = _
    rw [parts_e, exprP, if_neg (w_two w hw), if_pos hw]
    rfl
  · refine ⟨false, ha, hb, fun x y => ?_⟩
    show partsP ns "condition" w [x, y] = _
    rw [parts_c, condP, if_neg (w_cmp w hw).1, if_pos (w_cmp w hw).2]
    show (if w ∈ (["same", "below"] : List Str) then some [srt "expression" x, srt "expression" y] else some [srt "condition" x, srt "condition" y]) = _
    rw [if_pos hw]
    rfl
  · refine ⟨true, ha, hb, fun x y => ?_⟩
    show partsP ns "condition" w [x, y] = _
    rw [parts_c, condP, if_neg (w_and w hw).1, if_pos (w_and w hw).2.1]
    show (if w ∈ (["same", "below"] : List Str) then some [srt "expression" x, srt "expression" y] else some [srt "condition" x, srt "condition" y]) = _
    rw [if_neg (w_and w hw).2.2]
    rfl
theorem parts_cut {ns : List Str} {w : Str} {n : Int} (hw : w ∈ (["div", "rest"] : List Str)) (n0 : 0 < n) (x : PyData) : partsP ns "expression" w [x, .int n] = some [srt "expression" x] := by
  rw [parts_e, exprP, if_neg (w_cut w hw).1, if_neg (w_cut w hw).2, if_pos hw]
  show (if isPos (.int n) then some [srt "expression" x] else none) = _
  have hp : isPos (.int n) = true := decide_eq_true n0
  rw [if_pos hp]
theorem parts_neg {ns : List Str} (x : PyData) : partsP ns "condition" "not" [x] = some [srt "condition" x] := by
  rw [parts_c, condP, if_pos rfl]
  rfl
theorem all_wrong {ns : List Str} {q : PyData} {ps : List PyData} (h : q ∈ ps) (k : rightD ns q = false) : ps.all (rightD ns) = false := by
  cases z : ps.all (rightD ns) with
  | false => rfl
  | true =>
    rw [List.all_eq_true] at z
    rw [z _ h] at k
    cases k
theorem wrong_by {ns : List Str} {s w : Str} {ds ps : List PyData} {q : PyData} (h : partsP ns s w ds = some ps) (m : q ∈ ps) (k : rightD ns q = false) : rightD ns (srt s (.tuple (.str w :: ds))) = false := by
  rw [rightD_parts, h]
  exact all_wrong m k
theorem wrong_no {ns : List Str} {s w : Str} {ds : List PyData} (h : partsP ns s w ds = none) : rightD ns (srt s (.tuple (.str w :: ds))) = false := by
  rw [rightD_parts, h]
theorem exch_cons {t u : Tm} {n : Nat} {p : List Nat} {x : PyData} (h : t.kid n = some u) : t.exch (n :: p) x = put t.d n (u.exch p x) := by simp only [Tm.exch, h]
theorem exch_wrong {ns : List Str} {x : PyData} {t u : Tm} {p : List Nat} (r : Path t p u) : ∀ {c : Bool}, t.Ok c → ∃ c', u.Ok c' ∧ (p = [] → c' = c) ∧ (rightD ns (srt (srtOf c') x) = false → rightD ns (srt (srtOf c) (t.exch p x)) = false) := by
  induction r with
  | nil t =>
    intro c ok
    exact ⟨c, ok, fun _ => rfl, fun h => by cases t <;> exact h⟩
  | cons h r ih =>
    rename_i t u v n p
    intro c ok
    have step : ∀ c1, u.Ok c1 → (∀ y, rightD ns (srt (srtOf c1) y) = false → rightD ns (srt (srtOf c) (put t.d n y)) = false) → ∃ c', v.Ok c' ∧ (n :: p = [] → c' = c) ∧ (rightD ns (srt (srtOf c') x) = false → rightD ns (srt (srtOf c) (t.exch (n :: p) x)) = false) := by
      intro c1 ok1 hy
      obtain ⟨c', ok', _, k⟩ := ih ok1
      refine ⟨c', ok', fun z => (by cases z), fun hx => ?_⟩
      rw [exch_cons h]
      exact hy _ (k hx)
    cases t with
    | num i => simp [Tm.kid] at h
    | fld s => simp [Tm.kid] at h
    | bin w a b =>
      obtain ⟨c1, oa, ob, hp⟩ := parts_bin (ns := ns) ok
      match n, h with
      | 1, h =>
        cases h
        exact step c1 oa fun y hy => wrong_by (hp y b.d) (by simp) hy
      | 2, h =>
        cases h
        exact step c1 ob fun y hy => wrong_by (hp a.d y) (by simp) hy
      | 0, h => simp [Tm.kid] at h
      | n + 3, h => simp [Tm.kid] at h
    | cut w a k =>
      obtain ⟨rfl, hw, k0, k1, oa⟩ := ok
      match n, h with
      | 1, h =>
        cases h
        exact step false oa fun y hy => wrong_by (parts_cut hw k0 y) (by simp [srtOf]) hy
      | 0, h => simp [Tm.kid] at h
      | n + 2, h => simp [Tm.kid] at h
    | neg a =>
      obtain ⟨rfl, oa⟩ := ok
      match n, h with
      | 1, h =>
        cases h
        exact step true oa fun y hy => wrong_by (parts_neg y) (by simp [srtOf]) hy
      | 0, h => simp [Tm.kid] at h
      | n + 2, h => simp [Tm.kid] at h
theorem szDs_drop (a : List PyData) (n : Nat) : szDs (a.drop n) ≤ szDs a := by
  have := szDs_app (a.take n) (a.drop n)
  rw [List.take_append_drop] at this
  omega
theorem put_sz (d : PyData) (n : Nat) (x : PyData) : szD (put d n x) ≤ szD d + szD x := by
  cases d with
  | tuple ds =>
    show szDs (ds.take n ++ ([x] ++ ds.drop (n + 1))) + 1 ≤ szDs ds + 1 + szD x
    have h1 := szDs_take ds n
    rw [szDs_app, szDs_app]
    have h2 : szDs (ds.take n) + szDs (ds.drop (n + 1)) ≤ szDs ds := by
      have e1 := szDs_app (ds.take n) (ds.drop n)
      rw [List.take_append_drop] at e1
      have e2 := szDs_drop (ds.drop n) 1
      rw [List.drop_drop] at e2
      omega
    have h3 : szDs [x] = szD x := by simp [szDs]
    omega
  | _ => exact Nat.le_add_right _ _
theorem exch_sz {x : PyData} {t u : Tm} {p : List Nat} (r : Path t p u) : szD (t.exch p x) ≤ 3 * (t.size * t.size) + szD x := by
  induction r with
  | nil t =>
    have : t.exch [] x = x := by cases t <;> rfl
    rw [this]
    omega
  | cons h r ih =>
    rename_i t u v n p
    rw [exch_cons h]
    have h1 := put_sz t.d n (u.exch p x)
    have h2 := kid_size h
    have h3 := t.szD_le
    have h4 : u.size * u.size + t.size ≤ t.size * t.size := by
      have a1 : u.size * u.size ≤ u.size * t.size := Nat.mul_le_mul_left _ (by omega)
      have a2 : (u.size + 1) * t.size ≤ t.size * t.size := Nat.mul_le_mul_right _ (by omega)
      rw [Nat.add_mul] at a2
      omega
    omega
theorem path_ok {t u : Tm} {p : List Nat} (r : Path t p u) : (∀ s ∈ u.flds, s ∈ t.flds) ∧ u.size ≤ t.size := by
  induction r with
  | nil t => exact ⟨fun _ h => h, Nat.le_refl _⟩
  | cons h r ih =>
    rename_i t u v n p
    have h2 := kid_size h
    refine ⟨fun s hs => ?_, by omega⟩
    have := ih.1 s hs
    unfold Tm.kid at h
    split at h
    all_goals first
      | (cases h; simp [Tm.flds, this])
      | cases h
end
end C
namespace C
open PySem L2 G
section
variable {P : Program} {w : World} {K : PySem.W.Frag} {mg : Str → Option Value} {base : Heap}
/-! ### all places of a thing -/
def wd (w : List Nat) : PyData := .tuple (w.map fun (n : Nat) => .int (n : Int))
def Tm.kl (t : Tm) (i : Nat) : List (Tm × Nat) := (List.range i).filterMap fun k => (t.kid (k + 1)).map fun u => (u, k + 1)
theorem kl_succ (t : Tm) (i : Nat) : t.kl (i + 1) = t.kl i ++ match t.kid (i + 1) with
    | some u => [(u, i + 1)]
    | none => [] := by
  unfold Tm.kl
  rw [List.range_succ, List.filterMap_append]
  cases h : t.kid (i + 1) <;> simp [h]
theorem kl_mem {t u : Tm} {i n : Nat} : (u, n) ∈ t.kl i ↔ 0 < n ∧ n ≤ i ∧ t.kid n = some u := by
  unfold Tm.kl
  rw [List.mem_filterMap]
  constructor
  · rintro ⟨k, hk, h⟩
    rw [List.mem_range] at hk
    cases z : t.kid (k + 1) with
    | none => rw [z] at h; cases h
    | some v =>
      rw [z] at h
      cases h
      exact ⟨by omega, by omega, z⟩
  · rintro ⟨h0, h1, h⟩
    obtain ⟨k, rfl⟩ : ∃ k, n = k + 1 := ⟨n - 1, by omega⟩
    exact ⟨k, List.mem_range.mpr (by omega), by rw [h]; rfl⟩
theorem kl_sum (t : Tm) : ((t.kl (t.arity - 1)).map fun q => q.1.size).sum + 1 ≤ t.size := by
  cases t <;> simp [Tm.kl, Tm.arity, Tm.kid, Tm.size, List.range_succ] <;> omega
def tdI (q : Tm × List Nat) : PyData := .tuple [q.1.d, wd q.2]
def fdI (q : List Nat × Tm) : PyData := .tuple [wd q.1, q.2.d]
structure Cov (t : Tm) (fs : List (List Nat × Tm)) (qs : List (Tm × List Nat)) : Prop where
  f : ∀ q ∈ fs, Path t q.1 q.2
  q : ∀ q ∈ qs, Path t q.2 q.1
  a : ∀ p u, Path t p u → (p, u) ∈ fs ∨ ∃ q ∈ qs, ∃ r, p = q.2 ++ r ∧ Path q.1 r u
theorem Cov.step {t u : Tm} {w : List Nat} {fs : List (List Nat × Tm)} {qs : List (Tm × List Nat)} (h : Cov t fs (qs ++ [(u, w)])) : Cov t (fs ++ [(w, u)]) (qs ++ (u.kl (u.arity - 1)).map fun k => (k.1, w ++ [k.2])) := by
  have hu : Path t w u := h.q (u, w) (by simp)
  refine ⟨fun q hq => ?_, fun q hq => ?_, fun p v hp => ?_⟩
  · rcases List.mem_append.mp hq with z | z
    · exact h.f q z
    · rw [List.mem_singleton] at z
      rw [z]
      exact hu
  · rcases List.mem_append.mp hq with z | z
    · exact h.q q (by simp [z])
    · obtain ⟨⟨v, n⟩, hk, rfl⟩ := List.mem_map.mp z
      exact hu.app (.cons (kl_mem.mp hk).2.2 (.nil _))
  · rcases h.a p v hp with z | ⟨q, hq, r, e, hr⟩
    · exact .inl (by simp [z])
    · rcases List.mem_append.mp hq with z | z
      · exact .inr ⟨q, by simp [z], r, e, hr⟩
      · rw [List.mem_singleton] at z
        subst z
        cases hr with
        | nil => exact .inl (by rw [e, List.append_nil]; simp)
        | cons hk hr' =>
          rename_i v' n p'
          have this : 0 < n ∧ n < u.arity := kid_pos hk
          refine .inr ⟨(v', w ++ [n]), List.mem_append_right _ (List.mem_map.mpr ⟨(v', n), kl_mem.mpr ⟨this.1, by omega, hk⟩, rfl⟩), p', by rw [e]; simp, hr'⟩
def spPlaces (K : PySem.W.Frag) : Sp := fun vs H Q _ => ∃ (B : Hp) (x : V) (t : Tm), vs = [x] ∧ Ex B H ∧ Dp K B x t.d ∧ t.size ≤ 10000 ∧
  ∀ B' H' p xs fs, Nx [] B H B' H' → H p = none → Mu B' H' p xs → DpAll K B' xs (fs.map fdI) → Cov t fs [] → fs.length ≤ t.size → Q (.ref p) H'
theorem ok_law_places (T : Txt w K mg) : Has P w K mg base "_law_places" s_law_places 1 ["thing"] (spPlaces K) := by
  refine has_mk T.d_law_places sc_law_places (fun _ _ _ _ _ _ us hl => match us, hl with | [_], _ => rfl) (fun vs H Q E h => ?_) (fun f cdv A outer s H vs Q E hr h => ?_)
  · obtain ⟨_, _, _, rfl, _⟩ := h
    rfl
  · obtain ⟨B, x, t, rfl, e, hx, hz, k⟩ := h
    refine ⟨_, (pss_cons (ps_par (i := 1) (j := 2) (by rfl) sc_law_places.nd rfl rfl (by decide) rfl rfl (pa_cons (pe_lst pa_nil) (pa_cons (pe_lst (pa_cons (pe_tup (pa_cons (pv 0) (pa_cons (pe_tup pa_nil) pa_nil))) pa_nil)) pa_nil)) (by rfl))
      (G.pss_cut (ps_while PassesOwn.never (pt_cmpR op_gt (pe_callB cl_len (by rfl) T.b_len (by decide +kernel) (pa_cons (pv 2) pa_nil)) pe_int (nomark _))
      (pss_cons (ps_asg (pe_bm0 PySem.F.plainAttrs_list PySem.F.slot_list_pop PySem.F.type_list_pop mt_pop (pv 2)) (pg_tup (by rfl) (pgs_cons (pg_name (i := 3) sc_law_places.nd rfl (.inl rfl)) (pgs_cons (pg_name (i := 4) sc_law_places.nd rfl (.inl rfl)) pgs_nil))))
      (pss_cons (ps_expr (pe_bm PySem.F.plainAttrs_list PySem.F.slot_list_append PySem.F.type_list_append mt_append (pv 1) (pa_cons (pe_tup (pa_cons (pv 4) (pa_cons (pv 3) pa_nil))) pa_nil)))
      (pss_one (ps_for PassesOwn.never rfl (pi_range2 (by rfl) T.b_range (pa_cons pe_int (pa_cons (pe_callB cl_len (by rfl) T.b_len (by decide +kernel) (pa_cons (pv 3) pa_nil)) pa_nil))) (pg_name (i := 5) sc_law_places.nd rfl (.inl rfl))
      (pss_one (ps_if (pt_val (pe_callB call_isi (by rfl) T.b_isinstance (by decide +kernel) (pa_cons (pe_ix ix_tup (pv 3) (pv 5) (fun _ _ => rfl)) (pa_cons (pe_bT (n := "tuple") (by rfl) T.b_tuple (by decide +kernel)) pa_nil))))
      (pss_one (ps_expr (pe_bm PySem.F.plainAttrs_list PySem.F.slot_list_append PySem.F.type_list_append mt_append (pv 2) (pa_cons (pe_tup (pa_cons (pe_ix ix_tup (pv 3) (pv 5) (fun _ _ => rfl)) (pa_cons (pe_op op_catE (pv 4) (pe_tup (pa_cons (pv 5) pa_nil))) pa_nil))) pa_nil))))
      pss_nil)))))))
      (pss_one (ps_ret (pv 1))))), ?_⟩
    walk_at "go"
    refine sx_newM e (by simp) fun Lf H1 hf n1 mf => ?_
    walk_at "sx"
    refine sx_newT (K := K) n1.h (.nil) (by simp) fun p2 B2 H2 hp2 n2 d2 => ?_
    walk_at "sx"
    refine sx_newT n2.h (.cons (Dp.up n2.b hx) (.cons d2 .nil)) (by simp) fun p3 B3 H3 hp3 n3 d3 => ?_
    have d3 : Dp K B3 (.ref p3) (tdI (t, [])) := d3
    walk_at "sx"
    have n13 := (n1.tr n2).tr n3
    refine sx_newM n3.h (by simp) fun Lt H4 ht n4 mt => ?_
    have ht0 : H Lt = none := n13.ex.free ht
    have hf0 : H Lf = none := hf
    have m4f := ((mf.up n2).up n3).up n4
    have hne : Lf ≠ Lt := ((mf.up n2).up n3).ne' ht
    walk_at "sx"
    walk_at "st"
    refine G.sx_cut (fun σ H' => ∃ (B' : Hp) (xs : List V) (fs : List (List Nat × Tm)) (y2 y3 y4 y5 : Option V), σ = [some x, some (.ref Lf), y2, y3, y4, y5] ∧ Nx [] B H B' H' ∧ Mu B' H' Lf xs ∧ DpAll K B' xs (fs.map fdI) ∧ Cov t fs [] ∧ fs.length ≤ t.size) ?_ ?_
    · refine ⟨fun m σ H' => ∃ (B' : Hp) (xs ys : List V) (fs : List (List Nat × Tm)) (qs : List (Tm × List Nat)) (y3 y4 y5 : Option V), m = (qs.map fun q => q.1.size).sum ∧ σ = [some x, some (.ref Lf), some (.ref Lt), y3, y4, y5] ∧ Nx [] B H B' H' ∧ Mu B' H' Lf xs ∧ Mu B' H' Lt ys ∧ DpAll K B' xs (fs.map fdI) ∧ DpAll K B' ys (qs.map tdI) ∧ Cov t fs qs ∧ fs.length + (qs.map fun q => q.1.size).sum ≤ t.size, ?_, ?_⟩
      · refine ⟨_, B3, [], [.ref p3], [], [(t, [])], none, none, none, rfl, rfl, n13.tr n4, m4f, mt, .nil, .cons d3 .nil, ⟨by simp, fun q hq => ?_, fun p u hp => .inr ⟨(t, []), by simp, p, rfl, hp⟩⟩, by simp⟩
        rw [List.mem_singleton] at hq
        subst hq
        exact .nil t
      · rintro m σ H5 ⟨B5, xs, ys, fs, qs, y3, y4, y5, rfl, rfl, n5, m5f, m5t, d5f, d5t, cov, z5⟩
        have l5 := Dps.len d5t
        rw [List.length_map] at l5
        have l5f := Dps.len d5f
        rw [List.length_map] at l5f
        have lq : ∀ q : List (Tm × List Nat), q.length ≤ (q.map fun q => q.1.size).sum := by
          intro q
          induction q with
          | nil => simp
          | cons a r ih =>
            have := a.1.size_pos
            simp only [List.length_cons, List.map_cons, List.sum_cons]
            omega
        walk_at "sx"
        by_cases he : qs = []
        · subst he
          refine ifF (dF (by rw [l5]; simp)) ?_
          exact ⟨B5, xs, fs, _, _, _, _, rfl, n5, m5f, d5f, cov, by simpa using z5⟩
        · obtain ⟨r, ⟨u, w0⟩, rfl⟩ := snoc_of he
          refine ifT (dT (by rw [l5]; simp)) ?_
          refine ⟨_, fun _ _ h => h, ?_⟩
          rw [List.map_append, List.map_singleton] at d5t
          obtain ⟨us, v, rfl, hus, hv⟩ := Dps.last d5t
          have lus := Dps.len hus
          rw [List.length_map] at lus
          rw [List.map_append, List.sum_append] at z5
          simp only [List.map_cons, List.map_nil, List.sum_cons, List.sum_nil, Nat.add_zero] at z5
          have lr := lq r
          have pu : Path t w0 u := cov.q (u, w0) (by simp)
          have usz := (path_ok pu).2
          walk_at "sx"
          refine sx_pop m5t n5.h fun H6 n6 m6t => ?_
          have m6f := m5f.up n6 (by simp [hne])
          have n56 := n5.loc n6 (by simp [ht0])
          walk_at "sx"
          refine sx_gtup2 hv n6.h fun v1 v2 hv1 hv2 => ?_
          walk_at "st"
          walk_at "sx"
          refine sx_newT n6.h (.cons hv2 (.cons hv1 .nil)) (by simp) fun p7 B7 H7 hp7 n7 d7 => ?_
          have d7 : Dp K B7 (.ref p7) (fdI (w0, u)) := d7
          have m7f := m6f.up n7
          have m7t := m6t.up n7
          have n57 := n56.tr n7
          walk_at "sx"
          refine sx_append m7f n7.h (by omega) fun H8 n8 m8f => ?_
          have m8t := m7t.up n8 (by simp [hne.symm])
          have n58 := n57.loc n8 (by simp [hf0])
          have hv1' := Dp.up (n7.b.trans n8.b) hv1
          have hv2' := Dp.up (n7.b.trans n8.b) hv2
          have hus8 := Dps.up (n7.b.trans n8.b) hus
          have d8f : DpAll K B7 (xs ++ [.ref p7]) ((fs ++ [(w0, u)]).map fdI) := by
            rw [List.map_append]
            exact Dps.app (Dps.up n7.b d5f) (.cons d7 .nil)
          obtain ⟨ds, ed, eln, e0, ekid⟩ := Tm.ds u
          rw [ed] at hv1'
          walk_at "sx"
          refine sx_lenTd hv1' n8.h ?_
          walk_at "sx"
          rw [eln]
          have ar : u.arity ≤ 3 := by cases u <;> simp [Tm.arity]
          have ar2 : 2 ≤ u.arity := by cases u <;> simp [Tm.arity]
          refine sx_forR2_by (lo := 1) (n := u.arity) (by omega) (by omega) (fun i σ H' => ∃ (B' : Hp) (ys : List V) (y5 : Option V), σ = [some x, some (.ref Lf), some (.ref Lt), some v1, some v2, y5] ∧ Nx [] B H B' H' ∧ Ex B7 B' ∧ Mu B' H' Lf (xs ++ [.ref p7]) ∧ Mu B' H' Lt ys ∧ DpAll K B' ys ((r ++ (u.kl i).map fun k => (k.1, w0 ++ [k.2])).map tdI)) ⟨B7, us, _, rfl, n58, Ex.refl _, m8f, m8t, by simpa [Tm.kl] using hus8⟩ (fun i σ H9 hi p => ?_) (fun σ H9 p => ?_)
          · obtain ⟨B9, ys, y5, rfl, n9, e9, m9f, m9t, d9⟩ := p
            have hi' : i + 1 < ds.length := by omega
            have hget := List.getElem?_eq_getElem hi'
            have hv19 := Dp.up e9 hv1'
            have hv29 := Dp.up e9 hv2'
            refine sx_gname ?_
            walk_at "st"
            walk_at "sx"
            have hix : ds[1 + i]? = some ds[i + 1] := by rw [Nat.add_comm 1 i]; exact hget
            refine sx_ixTd hv19 n9.h (atI_nat hix) fun vk hvk => ?_
            walk_at "sx"
            have lkl : ((u.kl i).map fun k => (k.1, w0 ++ [k.2])).length ≤ i := by
              rw [List.length_map]
              unfold Tm.kl
              exact Nat.le_trans (List.length_filterMap_le _ _) (by rw [List.length_range]; exact Nat.le_refl _)
            have l9 := Dps.len d9
            rw [List.length_map, List.length_append] at l9
            rcases ekid (i + 1) _ (by omega) hget with ⟨u', hk, hd⟩ | ⟨hk, hd⟩
            · obtain ⟨td, htd⟩ := tm_d u'
              refine ifT (by rw [hd, htd]; rfl) ?_
              walk_at "sx"
              refine sx_ixTd hv19 n9.h (atI_nat hix) fun vk2 hvk2 => ?_
              walk_at "sx"
              refine sx_newT (K := K) n9.h (.cons (.int _) .nil) (by simp) fun p10 B10 H10 hp10 n10 d10 => ?_
              walk_at "sx"
              have wl : w0.length ≤ 10000 := by
                have : ∀ {t u : Tm} {p : List Nat}, Path t p u → p.length ≤ t.size := by
                  intro t u p h
                  induction h with
                  | nil => exact Nat.zero_le _
                  | cons h r ih =>
                    have := kid_size h
                    rw [List.length_cons]
                    omega
                have := this pu
                omega
              refine sx_catE n10.h (Dp.up n10.b hv29) d10 (by simp; omega) fun v11 B11 H11 n11 d11 => ?_
              walk_at "sx"
              refine sx_newT n11.h (.cons (Dp.up (n10.b.trans n11.b) hvk2) (.cons d11 .nil)) (by simp) fun p12 B12 H12 hp12 n12 d12 => ?_
              have n912 := (n10.tr n11).tr n12
              have m12f := m9f.up n912
              have m12t := m9t.up n912
              walk_at "sx"
              refine sx_append m12t n12.h (by omega) fun H13 n13 m13t => ?_
              refine ⟨B12, _, _, rfl, (n9.tr n912).loc n13 (by simp [ht0]), e9.trans n912.b, m12f.up n13 (by simp [hne]), m13t, ?_⟩
              have ek : u.kl (i + 1) = u.kl i ++ [(u', i + 1)] := by rw [kl_succ, hk]
              have eq : r ++ (u.kl (i + 1)).map (fun k => (k.1, w0 ++ [k.2])) = (r ++ (u.kl i).map fun k => (k.1, w0 ++ [k.2])) ++ [(u', w0 ++ [i + 1])] := by
                rw [ek, List.map_append, List.append_assoc]
                rfl
              rw [eq, List.map_append]
              refine Dps.app (Dps.up n912.b d9) (.cons ?_ .nil)
              have hc : tdI (u', w0 ++ [i + 1]) = .tuple [ds[i + 1], .tuple ((w0.map fun (n : Nat) => PyData.int (n : Int)) ++ [.int ((1 + i : Nat) : Int)])] := by
                rw [hd, Nat.add_comm 1 i]
                show PyData.tuple [u'.d, .tuple ((w0 ++ [i + 1]).map fun (n : Nat) => PyData.int (n : Int))] = _
                rw [List.map_append]
                rfl
              show Dp K B12 (.ref p12) (tdI (u', w0 ++ [i + 1]))
              rw [hc]
              exact d12
            · refine ifF hd ?_
              refine ⟨B9, ys, _, rfl, n9, e9, m9f, m9t, ?_⟩
              have ek : u.kl (i + 1) = u.kl i := by rw [kl_succ, hk, List.append_nil]
              rw [ek]
              exact d9
          · obtain ⟨B9, ys, y5, rfl, n9, e9, m9f, m9t, d9⟩ := p
            have ks := kl_sum u
            have key : ((r ++ (u.kl (u.arity - 1)).map fun k => (k.1, w0 ++ [k.2])).map fun q : Tm × List Nat => q.1.size).sum = (r.map fun q => q.1.size).sum + ((u.kl (u.arity - 1)).map fun q => q.1.size).sum := by
              rw [List.map_append, List.sum_append, List.map_map]
              rfl
            refine ⟨_, ?_, B9, xs ++ [.ref p7], ys, fs ++ [(w0, u)], r ++ (u.kl (u.arity - 1)).map fun k => (k.1, w0 ++ [k.2]), _, _, _, rfl, rfl, n9, m9f, m9t, Dps.up e9 d8f, d9, cov.step, ?_⟩
            · rw [key, List.map_append, List.sum_append]
              simp only [List.map_cons, List.map_nil, List.sum_cons, List.sum_nil]
              omega
            · rw [key, List.length_append, List.length_singleton]
              omega
    · rintro σ H' ⟨B', xs, fs, y2, y3, y4, y5, rfl, n, m, d, cov, z⟩
      walk_at "sx"
      exact k B' H' Lf xs fs n hf0 m d cov z
end
end C
namespace C
open PySem L2 G
section
variable {P : Program} {w : World} {K : PySem.W.Frag} {mg : Str → Option Value} {base : Heap}
/-! ### one part exchanged -/
def rws : Tm → List Nat → List (Tm × Nat)
  | _, [] => []
  | t, n :: p => (t, n) :: match t.kid n with
    | some u => rws u p
    | none => []
theorem rws_cons {t u : Tm} {n : Nat} {p : List Nat} (h : t.kid n = some u) : rws t (n :: p) = (t, n) :: rws u p := by simp only [rws, h]
theorem exch_fold {x : PyData} {t u : Tm} {p : List Nat} (r : Path t p u) : t.exch p x = (rws t p).foldr (fun q acc => put q.1.d q.2 acc) x := by
  induction r with
  | nil t => cases t <;> rfl
  | cons h r ih => rw [exch_cons h, rws_cons h, List.foldr_cons, ih]
theorem rws_kid {t u : Tm} {p : List Nat} (r : Path t p u) : ∀ q ∈ rws t p, ∃ v, q.1.kid q.2 = some v := by
  induction r with
  | nil t => intro q hq; cases hq
  | cons h r ih =>
    intro q hq
    rw [rws_cons h] at hq
    rcases List.mem_cons.mp hq with z | z
    · rw [z]
      exact ⟨_, h⟩
    · exact ih q z
theorem rws_len {t u : Tm} {p : List Nat} (r : Path t p u) : (rws t p).length = p.length := by
  induction r with
  | nil t => rfl
  | cons h r ih => rw [rws_cons h, List.length_cons, List.length_cons, ih]
def rdI (q : Tm × Nat) : PyData := .tuple [q.1.d, .int (q.2 : Int)]
def spExch (K : PySem.W.Frag) : Sp := fun vs H Q _ => ∃ (B : Hp) (x y z : V) (t u : Tm) (p : List Nat) (d : PyData), vs = [x, y, z] ∧ Ex B H ∧ Dp K B x t.d ∧ Dp K B y (wd p) ∧ Dp K B z d ∧ Path t p u ∧ p.length ≤ 10000 ∧
  ∀ B' H' v, Nx [] B H B' H' → Dp K B' v (t.exch p d) → Q v H'
theorem ok_law_exchanged (T : Txt w K mg) : Has P w K mg base "_law_exchanged" s_law_exchanged 1 ["thing", "way", "part"] (spExch K) := by
  refine has_mk T.d_law_exchanged sc_law_exchanged (fun _ _ _ _ _ _ us hl => match us, hl with | [_, _, _], _ => rfl) (fun vs H Q E h => ?_) (fun f cdv A outer s H vs Q E hr h => ?_)
  · obtain ⟨_, _, _, _, _, _, _, _, rfl, _⟩ := h
    rfl
  · obtain ⟨B, x, y, z, t, u, p, d, rfl, e, hx, hy, hz, hp, hl, k⟩ := h
    refine ⟨_, (pss_cons (ps_par (i := 3) (j := 4) (by rfl) sc_law_exchanged.nd rfl rfl (by decide) rfl rfl (pa_cons (pe_lst pa_nil) (pa_cons (pv 0) pa_nil)) (by rfl))
      (pss_cons (ps_for PassesOwn.never rfl (pi_tup (pv 1)) (pg_name (i := 5) sc_law_exchanged.nd rfl (.inl rfl))
      (pss_cons (ps_expr (pe_bm PySem.F.plainAttrs_list PySem.F.slot_list_append PySem.F.type_list_append mt_append (pv 3) (pa_cons (pe_tup (pa_cons (pv 4) (pa_cons (pv 5) pa_nil))) pa_nil)))
      (pss_one (ps_set (i := 4) sc_law_exchanged.nd rfl (.inl rfl) (pe_ix ix_tup (pv 4) (pv 5) (fun _ _ => rfl))))))
      (pss_cons (ps_for PassesOwn.never rfl (pi_list (pe_revL (pv 3))) ((pg_tup (by rfl) (pgs_cons (pg_name (i := 6) sc_law_exchanged.nd rfl (.inl rfl)) (pgs_cons (pg_name (i := 5) sc_law_exchanged.nd rfl (.inl rfl)) pgs_nil))))
      (pss_one (ps_set (i := 2) sc_law_exchanged.nd rfl (.inl rfl) (pe_op op_catE (pe_op op_catE (pe_slice sl_tup (pv 6) po_none (po_some (pv 5))) (pe_tup (pa_cons (pv 2) pa_nil))) (pe_slice sl_tup (pv 6) (po_some (pe_op op_add (pv 5) pe_int)) po_none)))))
      (pss_one (ps_ret (pv 2)))))), ?_⟩
    walk_at "go"
    refine sx_newM e (by simp) fun L H1 hL n1 m1 => ?_
    have hL0 : H L = none := hL
    walk_at "sx"
    walk_at "st"
    obtain ⟨a, ws, rfl, hs, hw⟩ := Dp.tup_v hy
    have lw := Dps.len hw
    rw [List.length_map] at lw
    refine sx_forT_by (n1.h.t hs) (fun i σ H' => ∃ (B' : Hp) (xs : List V) (vh : V) (ui : Tm) (done : List (Tm × Nat)) (y5 y6 : Option V), σ = [some x, some (.ref a), some z, some (.ref L), some vh, y5, y6] ∧ Nx [] B H B' H' ∧ Mu B' H' L xs ∧ DpAll K B' xs (done.map rdI) ∧ Dp K B' vh ui.d ∧ Path ui (p.drop i) u ∧ done ++ rws ui (p.drop i) = rws t p ∧ done.length = i) ⟨B, [], x, t, [], _, _, rfl, n1, m1, .nil, hx, hp, rfl, rfl⟩ (fun i σ H' _ q => ?_) (fun i v σ H2 hv q => ?_) (fun σ H2 q => ?_)
    · obtain ⟨B', xs, vh, ui, done, y5, y6, _, n, _⟩ := q
      exact n.h.t (n.b.t hs)
    · obtain ⟨B2, xs, vh, ui, done, y5, y6, rfl, n2, m2, d2, dh, pi, er, ln⟩ := q
      have hi := (List.getElem?_eq_some_iff.mp hv).1
      obtain ⟨dv, hdv, hdv2⟩ := Dps.got hw hv
      have hip : i < p.length := by omega
      rw [List.getElem?_map, List.getElem?_eq_getElem hip] at hdv
      cases hdv
      cases Dp.int_v hdv2
      have hdrop : p.drop i = p[i] :: p.drop (i + 1) := List.drop_eq_getElem_cons hip
      rw [hdrop] at pi er
      cases pi with
      | cons hk pr =>
        rename_i u'
        have kp : 0 < p[i] ∧ p[i] < ui.arity := kid_pos hk
        obtain ⟨ds, ed, eln, e0, ekid⟩ := Tm.ds ui
        rw [rws_cons hk] at er
        have l2 := Dps.len d2
        rw [List.length_map] at l2
        refine sx_gname ?_
        walk_at "st"
        walk_at "sx"
        refine sx_newT n2.h (.cons dh (.cons (.int _) .nil)) (by simp) fun p3 B3 H3 hp3 n3 d3 => ?_
        have d3 : Dp K B3 (.ref p3) (rdI (ui, p[i])) := d3
        have m3 := m2.up n3
        walk_at "sx"
        refine sx_append m3 n3.h (by omega) fun H4 n4 m4 => ?_
        have dh' := Dp.up n3.b dh
        rw [ed] at dh'
        have hget : ds[p[i]]? = some (ds[p[i]]'(by omega)) := List.getElem?_eq_getElem (by omega)
        walk_at "sx"
        refine sx_ixTd dh' n4.h (atI_nat hget) fun v5 hv5 => ?_
        walk_at "sx"
        walk_at "st"
        rcases ekid p[i] _ kp.1 hget with ⟨u2, hk2, hd2⟩ | ⟨hk2, _⟩
        · rw [hk] at hk2
          cases hk2
          rw [hd2] at hv5
          refine ⟨B3, _, v5, u', done ++ [(ui, p[i])], _, _, rfl, (n2.tr n3).loc n4 (by simp [hL0]), m4, ?_, hv5, pr, by rw [List.append_assoc]; exact er, by simp [ln]⟩
          rw [List.map_append]
          exact Dps.app (Dps.up n3.b d2) (.cons d3 .nil)
        · rw [hk] at hk2
          cases hk2
    · obtain ⟨B2, xs, vh, ui, done, y5, y6, rfl, n2, m2, d2, dh, pi, er, ln⟩ := q
      rw [lw, List.drop_length] at er
      rw [show rws ui [] = [] from rfl, List.append_nil] at er
      subst er
      have lr := rws_len hp
      have ldx := Dps.len d2
      rw [List.length_map, lr] at ldx
      walk_at "sx"
      refine sx_revL2 n2.h m2.sq fun L2 H3 hL2 n3 m3 => ?_
      walk_at "sx"
      have d3 : DpAll K B2 xs.reverse ((rws t p).reverse.map rdI) := by
        rw [List.map_reverse]
        exact Dps.rev d2
      refine sx_forL_by m3.sq (fun i σ H' => ∃ (B' : Hp) (vp : V) (y4 y5 y6 : Option V), σ = [some x, some (.ref a), some vp, some (.ref L), y4, y5, y6] ∧ Nx [] B H B' H' ∧ Mu B' H' L2 xs.reverse ∧ Ex B2 B' ∧ Dp K B' vp (((rws t p).reverse.take i).foldl (fun acc q => put q.1.d q.2 acc) d)) ⟨B2, z, _, _, _, rfl, n2.tr n3, m3, Ex.refl _, Dp.up n2.b hz⟩ (fun i σ H' _ q => ?_) (fun i v σ H4 hv q => ?_) (fun σ H4 q => ?_)
      · obtain ⟨B', vp, y4, y5, y6, _, _, m, _⟩ := q
        exact m.sq
      · obtain ⟨B4, vp, y4, y5, y6, rfl, n4, m4, e4, d4⟩ := q
        have hi := (List.getElem?_eq_some_iff.mp hv).1
        have hi2 : i < (rws t p).reverse.length := by rw [List.length_reverse, lr]; rw [List.length_reverse] at hi; omega
        obtain ⟨dv, hdv, hdv2⟩ := Dps.got d3 hv
        rw [List.getElem?_map, List.getElem?_eq_getElem hi2] at hdv
        cases hdv
        obtain ⟨q, hq⟩ : ∃ q, q = (rws t p).reverse[i] := ⟨_, rfl⟩
        rw [← hq] at hdv2
        have hmem : q ∈ rws t p := by
          rw [hq]
          exact List.mem_reverse.mp (List.getElem_mem hi2)
        obtain ⟨v', hk⟩ := rws_kid hp q hmem
        have kp := kid_pos hk
        obtain ⟨ds, ed, eln, e0, ekid⟩ := Tm.ds q.1
        have ar : q.1.arity ≤ 3 := by cases q.1 <;> simp [Tm.arity]
        refine sx_gtup2 (Dp.up e4 hdv2) n4.h fun v1 v2 hv1 hv2 => ?_
        cases Dp.int_v hv2
        rw [ed] at hv1
        walk_at "st"
        walk_at "sx"
        refine sx_slTo hv1 n4.h (by omega) fun p5 B5 H5 hp5 n5 d5 => ?_
        walk_at "sx"
        refine sx_newT n5.h (.cons (Dp.up n5.b d4) .nil) (by simp) fun p6 B6 H6 hp6 n6 d6 => ?_
        walk_at "sx"
        refine sx_catE n6.h (Dp.up n6.b d5) d6 (by simp; omega) fun v7 B7 H7 n7 d7 => ?_
        walk_at "sx"
        have n47 := (n5.tr n6).tr n7
        rw [show (q.2 : Int) + 1 = ((q.2 + 1 : Nat) : Int) by omega]
        refine sx_slFrom (Dp.up n47.b hv1) n7.h (by omega) (by omega) fun p8 B8 H8 hp8 n8 d8 => ?_
        refine sx_catE n8.h (Dp.up n8.b d7) d8 (by simp; omega) fun v9 B9 H9 n9 d9 => ?_
        walk_at "sx"
        walk_at "st"
        have n49 := (n47.tr n8).tr n9
        refine ⟨B9, v9, _, _, _, rfl, n4.tr n49, m4.up n49, e4.trans n49.b, ?_⟩
        have ht : (rws t p).reverse.take (i + 1) = (rws t p).reverse.take i ++ [q] := by
          rw [List.take_add_one, List.getElem?_eq_getElem hi2, ← hq]
          rfl
        rw [ht, List.foldl_append, List.foldl_cons, List.foldl_nil]
        rw [List.append_assoc] at d9
        show Dp K B9 v9 (put q.1.d q.2 _)
        rw [ed]
        exact d9
      · obtain ⟨B4, vp, y4, y5, y6, rfl, n4, m4, e4, d4⟩ := q
        walk_at "sx"
        refine k B4 H4 vp n4 ?_
        rw [exch_fold hp, ← List.foldl_reverse]
        rw [List.length_reverse, ldx, show p.length = (rws t p).reverse.length by rw [List.length_reverse, lr], List.take_length] at d4
        exact d4
end
end C
namespace C
open PySem L2 G
section
variable {P : Program} {w : World} {K : PySem.W.Frag} {mg : Str → Option Value} {base : Heap}
/-! ### wrong things -/
def spBad (K : PySem.W.Frag) (f : Str → List PyData) : Sp := fun vs H Q _ => ∃ (B : Hp) (a : Addr) (s : Str) (r : List V), vs = [.ref a] ∧ Ex B H ∧ SqL K H a (.str s :: r) ∧
  ∀ B' H' p xs, Nx [] B H B' H' → H p = none → Mu B' H' p xs → DpAll K B' xs (f s) → Q (.ref p) H'
def badS (s : Str) : List PyData := (((([.tuple [.str "number"], .tuple [.str "number", .str "1"], .tuple [.str "number", .bool true], .tuple [.str "number", .none], .tuple [.str "number", .int 1, .int 2], .tuple [.str "field", .str "zz"], .tuple [.str "field"], .tuple [.str "field", .int 0]] ++ [.tuple [.str "field", .tuple [.str "field", .str s]], .tuple [.str "plus", .tuple [.str "field", .str s]], .tuple [.str "plus", .tuple [.str "field", .str s], .tuple [.str "field", .str s], .tuple [.str "field", .str s]]]) ++ [.tuple [.str "less", .tuple [.str "field", .str s], .none], .tuple [.str "times", .tuple [.str "field", .str s], .int 3], .tuple [.str "div", .tuple [.str "field", .str s], .int 0], .tuple [.str "div", .tuple [.str "field", .str s], .int (0 - 1)], .tuple [.str "div", .tuple [.str "field", .str s], .bool true], .tuple [.str "div", .tuple [.str "field", .str s], .tuple [.str "field", .str s]], .tuple [.str "rest", .tuple [.str "field", .str s], .str "2"]]) ++ [.tuple [.str "rest", .tuple [.str "field", .str s]], .tuple [.str "min", .tuple [.str "field", .str s]], .tuple [.str "max", .tuple [.str "field", .str s], .tuple [.str "field", .str s], .tuple [.str "field", .str s]], .tuple [.str "same", .tuple [.str "field", .str s], .tuple [.str "field", .str s]], .tuple [.str "not", .tuple [.str "field", .str s]]]) ++ [.list [.str "number", .int 1], .tuple [.str "sum", .tuple [.str "field", .str s], .tuple [.str "field", .str s]], .tuple [], .tuple [.str "Plus", .tuple [.str "field", .str s], .tuple [.str "field", .str s]], .tuple [.int 1, .tuple [.str "field", .str s], .tuple [.str "field", .str s]], .none, .int 0, .str "f", .tuple [.str "rest", .tuple [.str "same", .tuple [.str "field", .str s], .tuple [.str "field", .str s]], .int 2], .tuple [.str "min", .tuple [.str "field", .str s], .tuple [.str "below", .tuple [.str "field", .str s], .tuple [.str "field", .str s]]], .tuple [.tuple [], .tuple [.str "field", .str s], .tuple [.str "field", .str s]]])
theorem ok_law_bad_sums (T : Txt w K mg) : Has P w K mg base "_law_bad_sums" s_law_bad_sums 1 ["names"] (spBad K badS) := by
  refine has_mk T.d_law_bad_sums sc_law_bad_sums (fun _ _ _ _ _ _ us hl => match us, hl with | [_], _ => rfl) (fun vs H Q E h => ?_) (fun f cdv A outer s' H vs Q E hr h => ?_)
  · obtain ⟨_, _, _, _, rfl, _⟩ := h
    rfl
  · obtain ⟨B, a, s, r, rfl, e, hS, k⟩ := h
    refine ⟨_, (pss_cons (ps_set (i := 1) sc_law_bad_sums.nd rfl (.inl rfl) (pe_tup (pa_cons pe_str (pa_cons (pe_ix ix_list (pv 0) pe_int (fun _ _ => rfl)) pa_nil))))
      (pss_cons (ps_set (i := 2) sc_law_bad_sums.nd rfl (.inl rfl) (pe_lst (pa_cons (pe_tup (pa_cons pe_str pa_nil)) (pa_cons (pe_tup (pa_cons pe_str (pa_cons pe_str pa_nil))) (pa_cons (pe_tup (pa_cons pe_str (pa_cons pe_bl pa_nil))) (pa_cons (pe_tup (pa_cons pe_str (pa_cons pe_non pa_nil))) (pa_cons (pe_tup (pa_cons pe_str (pa_cons pe_int (pa_cons pe_int pa_nil)))) (pa_cons (pe_tup (pa_cons pe_str (pa_cons pe_str pa_nil))) (pa_cons (pe_tup (pa_cons pe_str pa_nil)) (pa_cons (pe_tup (pa_cons pe_str (pa_cons pe_int pa_nil))) pa_nil))))))))))
      (pss_cons (ps_set (i := 2) sc_law_bad_sums.nd rfl (.inl rfl) (pe_op op_cat (pv 2) (pe_lst (pa_cons (pe_tup (pa_cons pe_str (pa_cons (pv 1) pa_nil))) (pa_cons (pe_tup (pa_cons pe_str (pa_cons (pv 1) pa_nil))) (pa_cons (pe_tup (pa_cons pe_str (pa_cons (pv 1) (pa_cons (pv 1) (pa_cons (pv 1) pa_nil))))) pa_nil))))))
      (pss_cons (ps_set (i := 2) sc_law_bad_sums.nd rfl (.inl rfl) (pe_op op_cat (pv 2) (pe_lst (pa_cons (pe_tup (pa_cons pe_str (pa_cons (pv 1) (pa_cons pe_non pa_nil)))) (pa_cons (pe_tup (pa_cons pe_str (pa_cons (pv 1) (pa_cons pe_int pa_nil)))) (pa_cons (pe_tup (pa_cons pe_str (pa_cons (pv 1) (pa_cons pe_int pa_nil)))) (pa_cons (pe_tup (pa_cons pe_str (pa_cons (pv 1) (pa_cons (pe_op op_sub pe_int pe_int) pa_nil)))) (pa_cons (pe_tup (pa_cons pe_str (pa_cons (pv 1) (pa_cons pe_bl pa_nil)))) (pa_cons (pe_tup (pa_cons pe_str (pa_cons (pv 1) (pa_cons (pv 1) pa_nil)))) (pa_cons (pe_tup (pa_cons pe_str (pa_cons (pv 1) (pa_cons pe_str pa_nil)))) pa_nil))))))))))
      (pss_cons (ps_set (i := 2) sc_law_bad_sums.nd rfl (.inl rfl) (pe_op op_cat (pv 2) (pe_lst (pa_cons (pe_tup (pa_cons pe_str (pa_cons (pv 1) pa_nil))) (pa_cons (pe_tup (pa_cons pe_str (pa_cons (pv 1) pa_nil))) (pa_cons (pe_tup (pa_cons pe_str (pa_cons (pv 1) (pa_cons (pv 1) (pa_cons (pv 1) pa_nil))))) (pa_cons (pe_tup (pa_cons pe_str (pa_cons (pv 1) (pa_cons (pv 1) pa_nil)))) (pa_cons (pe_tup (pa_cons pe_str (pa_cons (pv 1) pa_nil))) pa_nil))))))))
      (pss_one (ps_ret (pe_op op_cat (pv 2) (pe_lst (pa_cons (pe_lst (pa_cons pe_str (pa_cons pe_int pa_nil))) (pa_cons (pe_tup (pa_cons pe_str (pa_cons (pv 1) (pa_cons (pv 1) pa_nil)))) (pa_cons (pe_tup pa_nil) (pa_cons (pe_tup (pa_cons pe_str (pa_cons (pv 1) (pa_cons (pv 1) pa_nil)))) (pa_cons (pe_tup (pa_cons pe_int (pa_cons (pv 1) (pa_cons (pv 1) pa_nil)))) (pa_cons pe_non (pa_cons pe_int (pa_cons pe_str (pa_cons (pe_tup (pa_cons pe_str (pa_cons (pe_tup (pa_cons pe_str (pa_cons (pv 1) (pa_cons (pv 1) pa_nil)))) (pa_cons pe_int pa_nil)))) (pa_cons (pe_tup (pa_cons pe_str (pa_cons (pv 1) (pa_cons (pe_tup (pa_cons pe_str (pa_cons (pv 1) (pa_cons (pv 1) pa_nil)))) pa_nil)))) (pa_cons (pe_tup (pa_cons (pe_tup pa_nil) (pa_cons (pv 1) (pa_cons (pv 1) pa_nil)))) pa_nil)))))))))))))))))))), ?_⟩
    walk_at "go"
    refine sx_ixL (hS) (at0 (x := V.str s)) ?_
    walk_at "sx"
    refine sx_newT (K := K) e (.cons (.str "field") (.cons (.str s) .nil)) (by simp) fun p1 B1 H1 _ n1 d1 => ?_
    walk_at "sx"
    walk_at "st"
    walk_at "sx"
    refine sx_newT (K := K) n1.h (.cons (.str "number") .nil) (by simp) fun p2 B2 H2 _ n2 d2 => ?_
    walk_at "sx"
    refine sx_newT (K := K) n2.h (.cons (.str "number") (.cons (.str "1") .nil)) (by simp) fun p3 B3 H3 _ n3 d3 => ?_
    walk_at "sx"
    refine sx_newT (K := K) n3.h (.cons (.str "number") (.cons (.bl true) .nil)) (by simp) fun p4 B4 H4 _ n4 d4 => ?_
    walk_at "sx"
    refine sx_newT (K := K) n4.h (.cons (.str "number") (.cons .non .nil)) (by simp) fun p5 B5 H5 _ n5 d5 => ?_
    walk_at "sx"
    refine sx_newT (K := K) n5.h (.cons (.str "number") (.cons (.int 1) (.cons (.int 2) .nil))) (by simp) fun p6 B6 H6 _ n6 d6 => ?_
    walk_at "sx"
    refine sx_newT (K := K) n6.h (.cons (.str "field") (.cons (.str "zz") .nil)) (by simp) fun p7 B7 H7 _ n7 d7 => ?_
    walk_at "sx"
    refine sx_newT (K := K) n7.h (.cons (.str "field") .nil) (by simp) fun p8 B8 H8 _ n8 d8 => ?_
    walk_at "sx"
    refine sx_newT (K := K) n8.h (.cons (.str "field") (.cons (.int 0) .nil)) (by simp) fun p9 B9 H9 _ n9 d9 => ?_
    walk_at "sx"
    refine sx_newM (B := B9) n9.h (by simp) fun p10 H10 hp10 n10 m10 => ?_
    have a10 : DpAll K B9 [.ref p2, .ref p3, .ref p4, .ref p5, .ref p6, .ref p7, .ref p8, .ref p9] [.tuple [.str "number"], .tuple [.str "number", .str "1"], .tuple [.str "number", .bool true], .tuple [.str "number", .none], .tuple [.str "number", .int 1, .int 2], .tuple [.str "field", .str "zz"], .tuple [.str "field"], .tuple [.str "field", .int 0]] := (.cons (Dp.up (n3.b.trans (n4.b.trans (n5.b.trans (n6.b.trans (n7.b.trans (n8.b.trans (n9.b))))))) d2) (.cons (Dp.up (n4.b.trans (n5.b.trans (n6.b.trans (n7.b.trans (n8.b.trans (n9.b)))))) d3) (.cons (Dp.up (n5.b.trans (n6.b.trans (n7.b.trans (n8.b.trans (n9.b))))) d4) (.cons (Dp.up (n6.b.trans (n7.b.trans (n8.b.trans (n9.b)))) d5) (.cons (Dp.up (n7.b.trans (n8.b.trans (n9.b))) d6) (.cons (Dp.up (n8.b.trans (n9.b)) d7) (.cons (Dp.up (n9.b) d8) (.cons d9 .nil))))))))
    walk_at "sx"
    walk_at "st"
    walk_at "sx"
    refine sx_newT (K := K) n10.h (.cons (.str "field") (.cons (Dp.up (n2.b.trans (n3.b.trans (n4.b.trans (n5.b.trans (n6.b.trans (n7.b.trans (n8.b.trans (n9.b.trans (n10.b))))))))) d1) .nil)) (by simp) fun p11 B11 H11 _ n11 d11 => ?_
    walk_at "sx"
    refine sx_newT (K := K) n11.h (.cons (.str "plus") (.cons (Dp.up (n2.b.trans (n3.b.trans (n4.b.trans (n5.b.trans (n6.b.trans (n7.b.trans (n8.b.trans (n9.b.trans (n10.b.trans (n11.b)))))))))) d1) .nil)) (by simp) fun p12 B12 H12 _ n12 d12 => ?_
    walk_at "sx"
    refine sx_newT (K := K) n12.h (.cons (.str "plus") (.cons (Dp.up (n2.b.trans (n3.b.trans (n4.b.trans (n5.b.trans (n6.b.trans (n7.b.trans (n8.b.trans (n9.b.trans (n10.b.trans (n11.b.trans (n12.b))))))))))) d1) (.cons (Dp.up (n2.b.trans (n3.b.trans (n4.b.trans (n5.b.trans (n6.b.trans (n7.b.trans (n8.b.trans (n9.b.trans (n10.b.trans (n11.b.trans (n12.b))))))))))) d1) (.cons (Dp.up (n2.b.trans (n3.b.trans (n4.b.trans (n5.b.trans (n6.b.trans (n7.b.trans (n8.b.trans (n9.b.trans (n10.b.trans (n11.b.trans (n12.b))))))))))) d1) .nil)))) (by simp) fun p13 B13 H13 _ n13 d13 => ?_
    walk_at "sx"
    refine sx_newM (B := B13) n13.h (by simp) fun p14 H14 hp14 n14 m14 => ?_
    have a14 : DpAll K B13 [.ref p11, .ref p12, .ref p13] [.tuple [.str "field", .tuple [.str "field", .str s]], .tuple [.str "plus", .tuple [.str "field", .str s]], .tuple [.str "plus", .tuple [.str "field", .str s], .tuple [.str "field", .str s], .tuple [.str "field", .str s]]] := (.cons (Dp.up (n12.b.trans (n13.b)) d11) (.cons (Dp.up (n13.b) d12) (.cons d13 .nil)))
    walk_at "sx"
    refine sx_cat n14.h ((((m10.up n11).up n12).up n13).up n14).h m14.h (by simp) fun p15 H15 hp15 n15 m15 => ?_
    have a15 := Dps.app (Dps.up (n11.b.trans (n12.b.trans (n13.b.trans (n14.b)))) a10) a14
    walk_at "sx"
    walk_at "st"
    walk_at "sx"
    refine sx_newT (K := K) n15.h (.cons (.str "less") (.cons (Dp.up (n2.b.trans (n3.b.trans (n4.b.trans (n5.b.trans (n6.b.trans (n7.b.trans (n8.b.trans (n9.b.trans (n10.b.trans (n11.b.trans (n12.b.trans (n13.b.trans (n14.b.trans (n15.b)))))))))))))) d1) (.cons .non .nil))) (by simp) fun p16 B16 H16 _ n16 d16 => ?_
    walk_at "sx"
    refine sx_newT (K := K) n16.h (.cons (.str "times") (.cons (Dp.up (n2.b.trans (n3.b.trans (n4.b.trans (n5.b.trans (n6.b.trans (n7.b.trans (n8.b.trans (n9.b.trans (n10.b.trans (n11.b.trans (n12.b.trans (n13.b.trans (n14.b.trans (n15.b.trans (n16.b))))))))))))))) d1) (.cons (.int 3) .nil))) (by simp) fun p17 B17 H17 _ n17 d17 => ?_
    walk_at "sx"
    refine sx_newT (K := K) n17.h (.cons (.str "div") (.cons (Dp.up (n2.b.trans (n3.b.trans (n4.b.trans (n5.b.trans (n6.b.trans (n7.b.trans (n8.b.trans (n9.b.trans (n10.b.trans (n11.b.trans (n12.b.trans (n13.b.trans (n14.b.trans (n15.b.trans (n16.b.trans (n17.b)))))))))))))))) d1) (.cons (.int 0) .nil))) (by simp) fun p18 B18 H18 _ n18 d18 => ?_
    walk_at "sx"
    refine sx_newT (K := K) n18.h (.cons (.str "div") (.cons (Dp.up (n2.b.trans (n3.b.trans (n4.b.trans (n5.b.trans (n6.b.trans (n7.b.trans (n8.b.trans (n9.b.trans (n10.b.trans (n11.b.trans (n12.b.trans (n13.b.trans (n14.b.trans (n15.b.trans (n16.b.trans (n17.b.trans (n18.b))))))))))))))))) d1) (.cons (.int (0 - 1)) .nil))) (by simp) fun p19 B19 H19 _ n19 d19 => ?_
    walk_at "sx"
    refine sx_newT (K := K) n19.h (.cons (.str "div") (.cons (Dp.up (n2.b.trans (n3.b.trans (n4.b.trans (n5.b.trans (n6.b.trans (n7.b.trans (n8.b.trans (n9.b.trans (n10.b.trans (n11.b.trans (n12.b.trans (n13.b.trans (n14.b.trans (n15.b.trans (n16.b.trans (n17.b.trans (n18.b.trans (n19.b)))))))))))))))))) d1) (.cons (.bl true) .nil))) (by simp) fun p20 B20 H20 _ n20 d20 => ?_
    walk_at "sx"
    refine sx_newT (K := K) n20.h (.cons (.str "div") (.cons (Dp.up (n2.b.trans (n3.b.trans (n4.b.trans (n5.b.trans (n6.b.trans (n7.b.trans (n8.b.trans (n9.b.trans (n10.b.trans (n11.b.trans (n12.b.trans (n13.b.trans (n14.b.trans (n15.b.trans (n16.b.trans (n17.b.trans (n18.b.trans (n19.b.trans (n20.b))))))))))))))))))) d1) (.cons (Dp.up (n2.b.trans (n3.b.trans (n4.b.trans (n5.b.trans (n6.b.trans (n7.b.trans (n8.b.trans (n9.b.trans (n10.b.trans (n11.b.trans (n12.b.trans (n13.b.trans (n14.b.trans (n15.b.trans (n16.b.trans (n17.b.trans (n18.b.trans (n19.b.trans (n20.b))))))))))))))))))) d1) .nil))) (by simp) fun p21 B21 H21 _ n21 d21 => ?_
    walk_at "sx"
    refine sx_newT (K := K) n21.h (.cons (.str "rest") (.cons (Dp.up (n2.b.trans (n3.b.trans (n4.b.trans (n5.b.trans (n6.b.trans (n7.b.trans (n8.b.trans (n9.b.trans (n10.b.trans (n11.b.trans (n12.b.trans (n13.b.trans (n14.b.trans (n15.b.trans (n16.b.trans (n17.b.trans (n18.b.trans (n19.b.trans (n20.b.trans (n21.b)))))))))))))))))))) d1) (.cons (.str "2") .nil))) (by simp) fun p22 B22 H22 _ n22 d22 => ?_
    walk_at "sx"
    refine sx_newM (B := B22) n22.h (by simp) fun p23 H23 hp23 n23 m23 => ?_
    have a23 : DpAll K B22 [.ref p16, .ref p17, .ref p18, .ref p19, .ref p20, .ref p21, .ref p22] [.tuple [.str "less", .tuple [.str "field", .str s], .none], .tuple [.str "times", .tuple [.str "field", .str s], .int 3], .tuple [.str "div", .tuple [.str "field", .str s], .int 0], .tuple [.str "div", .tuple [.str "field", .str s], .int (0 - 1)], .tuple [.str "div", .tuple [.str "field", .str s], .bool true], .tuple [.str "div", .tuple [.str "field", .str s], .tuple [.str "field", .str s]], .tuple [.str "rest", .tuple [.str "field", .str s], .str "2"]] := (.cons (Dp.up (n17.b.trans (n18.b.trans (n19.b.trans (n20.b.trans (n21.b.trans (n22.b)))))) d16) (.cons (Dp.up (n18.b.trans (n19.b.trans (n20.b.trans (n21.b.trans (n22.b))))) d17) (.cons (Dp.up (n19.b.trans (n20.b.trans (n21.b.trans (n22.b)))) d18) (.cons (Dp.up (n20.b.trans (n21.b.trans (n22.b))) d19) (.cons (Dp.up (n21.b.trans (n22.b)) d20) (.cons (Dp.up (n22.b) d21) (.cons d22 .nil)))))))
    walk_at "sx"
    refine sx_cat n23.h ((((((((m15.up n16).up n17).up n18).up n19).up n20).up n21).up n22).up n23).h m23.h (by simp) fun p24 H24 hp24 n24 m24 => ?_
    have a24 := Dps.app (Dps.up (n16.b.trans (n17.b.trans (n18.b.trans (n19.b.trans (n20.b.trans (n21.b.trans (n22.b.trans (n23.b)))))))) a15) a23
    walk_at "sx"
    walk_at "st"
    walk_at "sx"
    refine sx_newT (K := K) n24.h (.cons (.str "rest") (.cons (Dp.up (n2.b.trans (n3.b.trans (n4.b.trans (n5.b.trans (n6.b.trans (n7.b.trans (n8.b.trans (n9.b.trans (n10.b.trans (n11.b.trans (n12.b.trans (n13.b.trans (n14.b.trans (n15.b.trans (n16.b.trans (n17.b.trans (n18.b.trans (n19.b.trans (n20.b.trans (n21.b.trans (n22.b.trans (n23.b.trans (n24.b))))))))))))))))))))))) d1) .nil)) (by simp) fun p25 B25 H25 _ n25 d25 => ?_
    walk_at "sx"
    refine sx_newT (K := K) n25.h (.cons (.str "min") (.cons (Dp.up (n2.b.trans (n3.b.trans (n4.b.trans (n5.b.trans (n6.b.trans (n7.b.trans (n8.b.trans (n9.b.trans (n10.b.trans (n11.b.trans (n12.b.trans (n13.b.trans (n14.b.trans (n15.b.trans (n16.b.trans (n17.b.trans (n18.b.trans (n19.b.trans (n20.b.trans (n21.b.trans (n22.b.trans (n23.b.trans (n24.b.trans (n25.b)))))))))))))))))))))))) d1) .nil)) (by simp) fun p26 B26 H26 _ n26 d26 => ?_
    walk_at "sx"
    refine sx_newT (K := K) n26.h (.cons (.str "max") (.cons (Dp.up (n2.b.trans (n3.b.trans (n4.b.trans (n5.b.trans (n6.b.trans (n7.b.trans (n8.b.trans (n9.b.trans (n10.b.trans (n11.b.trans (n12.b.trans (n13.b.trans (n14.b.trans (n15.b.trans (n16.b.trans (n17.b.trans (n18.b.trans (n19.b.trans (n20.b.trans (n21.b.trans (n22.b.trans (n23.b.trans (n24.b.trans (n25.b.trans (n26.b))))))))))))))))))))))))) d1) (.cons (Dp.up (n2.b.trans (n3.b.trans (n4.b.trans (n5.b.trans (n6.b.trans (n7.b.trans (n8.b.trans (n9.b.trans (n10.b.trans (n11.b.trans (n12.b.trans (n13.b.trans (n14.b.trans (n15.b.trans (n16.b.trans (n17.b.trans (n18.b.trans (n19.b.trans (n20.b.trans (n21.b.trans (n22.b.trans (n23.b.trans (n24.b.trans (n25.b.trans (n26.b))))))))))))))))))))))))) d1) (.cons (Dp.up (n2.b.trans (n3.b.trans (n4.b.trans (n5.b.trans (n6.b.trans (n7.b.trans (n8.b.trans (n9.b.trans (n10.b.trans (n11.b.trans (n12.b.trans (n13.b.trans (n14.b.trans (n15.b.trans (n16.b.trans (n17.b.trans (n18.b.trans (n19.b.trans (n20.b.trans (n21.b.trans (n22.b.trans (n23.b.trans (n24.b.trans (n25.b.trans (n26.b))))))))))))))))))))))))) d1) .nil)))) (by simp) fun p27 B27 H27 _ n27 d27 => ?_
    walk_at "sx"
    refine sx_newT (K := K) n27.h (.cons (.str "same") (.cons (Dp.up (n2.b.trans (n3.b.trans (n4.b.trans (n5.b.trans (n6.b.trans (n7.b.trans (n8.b.trans (n9.b.trans (n10.b.trans (n11.b.trans (n12.b.trans (n13.b.trans (n14.b.trans (n15.b.trans (n16.b.trans (n17.b.trans (n18.b.trans (n19.b.trans (n20.b.trans (n21.b.trans (n22.b.trans (n23.b.trans (n24.b.trans (n25.b.trans (n26.b.trans (n27.b)))))))))))))))))))))))))) d1) (.cons (Dp.up (n2.b.trans (n3.b.trans (n4.b.trans (n5.b.trans (n6.b.trans (n7.b.trans (n8.b.trans (n9.b.trans (n10.b.trans (n11.b.trans (n12.b.trans (n13.b.trans (n14.b.trans (n15.b.trans (n16.b.trans (n17.b.trans (n18.b.trans (n19.b.trans (n20.b.trans (n21.b.trans (n22.b.trans (n23.b.trans (n24.b.trans (n25.b.trans (n26.b.trans (n27.b)))))))))))))))))))))))))) d1) .nil))) (by simp) fun p28 B28 H28 _ n28 d28 => ?_
    walk_at "sx"
    refine sx_newT (K := K) n28.h (.cons (.str "not") (.cons (Dp.up (n2.b.trans (n3.b.trans (n4.b.trans (n5.b.trans (n6.b.trans (n7.b.trans (n8.b.trans (n9.b.trans (n10.b.trans (n11.b.trans (n12.b.trans (n13.b.trans (n14.b.trans (n15.b.trans (n16.b.trans (n17.b.trans (n18.b.trans (n19.b.trans (n20.b.trans (n21.b.trans (n22.b.trans (n23.b.trans (n24.b.trans (n25.b.trans (n26.b.trans (n27.b.trans (n28.b))))))))))))))))))))))))))) d1) .nil)) (by simp) fun p29 B29 H29 _ n29 d29 => ?_
    walk_at "sx"
    refine sx_newM (B := B29) n29.h (by simp) fun p30 H30 hp30 n30 m30 => ?_
    have a30 : DpAll K B29 [.ref p25, .ref p26, .ref p27, .ref p28, .ref p29] [.tuple [.str "rest", .tuple [.str "field", .str s]], .tuple [.str "min", .tuple [.str "field", .str s]], .tuple [.str "max", .tuple [.str "field", .str s], .tuple [.str "field", .str s], .tuple [.str "field", .str s]], .tuple [.str "same", .tuple [.str "field", .str s], .tuple [.str "field", .str s]], .tuple [.str "not", .tuple [.str "field", .str s]]] := (.cons (Dp.up (n26.b.trans (n27.b.trans (n28.b.trans (n29.b)))) d25) (.cons (Dp.up (n27.b.trans (n28.b.trans (n29.b))) d26) (.cons (Dp.up (n28.b.trans (n29.b)) d27) (.cons (Dp.up (n29.b) d28) (.cons d29 .nil)))))
    walk_at "sx"
    refine sx_cat n30.h ((((((m24.up n25).up n26).up n27).up n28).up n29).up n30).h m30.h (by simp) fun p31 H31 hp31 n31 m31 => ?_
    have a31 := Dps.app (Dps.up (n25.b.trans (n26.b.trans (n27.b.trans (n28.b.trans (n29.b.trans (n30.b)))))) a24) a30
    walk_at "sx"
    walk_at "st"
    walk_at "sx"
    refine sx_newL (K := K) n31.h (.cons (.str "number") (.cons (.int 1) .nil)) (by simp) fun p32 B32 H32 _ n32 d32 => ?_
    walk_at "sx"
    refine sx_newT (K := K) n32.h (.cons (.str "sum") (.cons (Dp.up (n2.b.trans (n3.b.trans (n4.b.trans (n5.b.trans (n6.b.trans (n7.b.trans (n8.b.trans (n9.b.trans (n10.b.trans (n11.b.trans (n12.b.trans (n13.b.trans (n14.b.trans (n15.b.trans (n16.b.trans (n17.b.trans (n18.b.trans (n19.b.trans (n20.b.trans (n21.b.trans (n22.b.trans (n23.b.trans (n24.b.trans (n25.b.trans (n26.b.trans (n27.b.trans (n28.b.trans (n29.b.trans (n30.b.trans (n31.b.trans (n32.b))))))))))))))))))))))))))))))) d1) (.cons (Dp.up (n2.b.trans (n3.b.trans (n4.b.trans (n5.b.trans (n6.b.trans (n7.b.trans (n8.b.trans (n9.b.trans (n10.b.trans (n11.b.trans (n12.b.trans (n13.b.trans (n14.b.trans (n15.b.trans (n16.b.trans (n17.b.trans (n18.b.trans (n19.b.trans (n20.b.trans (n21.b.trans (n22.b.trans (n23.b.trans (n24.b.trans (n25.b.trans (n26.b.trans (n27.b.trans (n28.b.trans (n29.b.trans (n30.b.trans (n31.b.trans (n32.b))))))))))))))))))))))))))))))) d1) .nil))) (by simp) fun p33 B33 H33 _ n33 d33 => ?_
    walk_at "sx"
    refine sx_newT (K := K) n33.h .nil (by simp) fun p34 B34 H34 _ n34 d34 => ?_
    walk_at "sx"
    refine sx_newT (K := K) n34.h (.cons (.str "Plus") (.cons (Dp.up (n2.b.trans (n3.b.trans (n4.b.trans (n5.b.trans (n6.b.trans (n7.b.trans (n8.b.trans (n9.b.trans (n10.b.trans (n11.b.trans (n12.b.trans (n13.b.trans (n14.b.trans (n15.b.trans (n16.b.trans (n17.b.trans (n18.b.trans (n19.b.trans (n20.b.trans (n21.b.trans (n22.b.trans (n23.b.trans (n24.b.trans (n25.b.trans (n26.b.trans (n27.b.trans (n28.b.trans (n29.b.trans (n30.b.trans (n31.b.trans (n32.b.trans (n33.b.trans (n34.b))))))))))))))))))))))))))))))))) d1) (.cons (Dp.up (n2.b.trans (n3.b.trans (n4.b.trans (n5.b.trans (n6.b.trans (n7.b.trans (n8.b.trans (n9.b.trans (n10.b.trans (n11.b.trans (n12.b.trans (n13.b.trans (n14.b.trans (n15.b.trans (n16.b.trans (n17.b.trans (n18.b.trans (n19.b.trans (n20.b.trans (n21.b.trans (n22.b.trans (n23.b.trans (n24.b.trans (n25.b.trans (n26.b.trans (n27.b.trans (n28.b.trans (n29.b.trans (n30.b.trans (n31.b.trans (n32.b.trans (n33.b.trans (n34.b))))))))))))))))))))))))))))))))) d1) .nil))) (by simp) fun p35 B35 H35 _ n35 d35 => ?_
    walk_at "sx"
    refine sx_newT (K := K) n35.h (.cons (.int 1) (.cons (Dp.up (n2.b.trans (n3.b.trans (n4.b.trans (n5.b.trans (n6.b.trans (n7.b.trans (n8.b.trans (n9.b.trans (n10.b.trans (n11.b.trans (n12.b.trans (n13.b.trans (n14.b.trans (n15.b.trans (n16.b.trans (n17.b.trans (n18.b.trans (n19.b.trans (n20.b.trans (n21.b.trans (n22.b.trans (n23.b.trans (n24.b.trans (n25.b.trans (n26.b.trans (n27.b.trans (n28.b.trans (n29.b.trans (n30.b.trans (n31.b.trans (n32.b.trans (n33.b.trans (n34.b.trans (n35.b)))))))))))))))))))))))))))))))))) d1) (.cons (Dp.up (n2.b.trans (n3.b.trans (n4.b.trans (n5.b.trans (n6.b.trans (n7.b.trans (n8.b.trans (n9.b.trans (n10.b.trans (n11.b.trans (n12.b.trans (n13.b.trans (n14.b.trans (n15.b.trans (n16.b.trans (n17.b.trans (n18.b.trans (n19.b.trans (n20.b.trans (n21.b.trans (n22.b.trans (n23.b.trans (n24.b.trans (n25.b.trans (n26.b.trans (n27.b.trans (n28.b.trans (n29.b.trans (n30.b.trans (n31.b.trans (n32.b.trans (n33.b.trans (n34.b.trans (n35.b)))))))))))))))))))))))))))))))))) d1) .nil))) (by simp) fun p36 B36 H36 _ n36 d36 => ?_
    walk_at "sx"
    refine sx_newT (K := K) n36.h (.cons (.str "same") (.cons (Dp.up (n2.b.trans (n3.b.trans (n4.b.trans (n5.b.trans (n6.b.trans (n7.b.trans (n8.b.trans (n9.b.trans (n10.b.trans (n11.b.trans (n12.b.trans (n13.b.trans (n14.b.trans (n15.b.trans (n16.b.trans (n17.b.trans (n18.b.trans (n19.b.trans (n20.b.trans (n21.b.trans (n22.b.trans (n23.b.trans (n24.b.trans (n25.b.trans (n26.b.trans (n27.b.trans (n28.b.trans (n29.b.trans (n30.b.trans (n31.b.trans (n32.b.trans (n33.b.trans (n34.b.trans (n35.b.trans (n36.b))))))))))))))))))))))))))))))))))) d1) (.cons (Dp.up (n2.b.trans (n3.b.trans (n4.b.trans (n5.b.trans (n6.b.trans (n7.b.trans (n8.b.trans (n9.b.trans (n10.b.trans (n11.b.trans (n12.b.trans (n13.b.trans (n14.b.trans (n15.b.trans (n16.b.trans (n17.b.trans (n18.b.trans (n19.b.trans (n20.b.trans (n21.b.trans (n22.b.trans (n23.b.trans (n24.b.trans (n25.b.trans (n26.b.trans (n27.b.trans (n28.b.trans (n29.b.trans (n30.b.trans (n31.b.trans (n32.b.trans (n33.b.trans (n34.b.trans (n35.b.trans (n36.b))))))))))))))))))))))))))))))))))) d1) .nil))) (by simp) fun p37 B37 H37 _ n37 d37 => ?_
    walk_at "sx"
    refine sx_newT (K := K) n37.h (.cons (.str "rest") (.cons d37 (.cons (.int 2) .nil))) (by simp) fun p38 B38 H38 _ n38 d38 => ?_
    walk_at "sx"
    refine sx_newT (K := K) n38.h (.cons (.str "below") (.cons (Dp.up (n2.b.trans (n3.b.trans (n4.b.trans (n5.b.trans (n6.b.trans (n7.b.trans (n8.b.trans (n9.b.trans (n10.b.trans (n11.b.trans (n12.b.trans (n13.b.trans (n14.b.trans (n15.b.trans (n16.b.trans (n17.b.trans (n18.b.trans (n19.b.trans (n20.b.trans (n21.b.trans (n22.b.trans (n23.b.trans (n24.b.trans (n25.b.trans (n26.b.trans (n27.b.trans (n28.b.trans (n29.b.trans (n30.b.trans (n31.b.trans (n32.b.trans (n33.b.trans (n34.b.trans (n35.b.trans (n36.b.trans (n37.b.trans (n38.b))))))))))))))))))))))))))))))))))))) d1) (.cons (Dp.up (n2.b.trans (n3.b.trans (n4.b.trans (n5.b.trans (n6.b.trans (n7.b.trans (n8.b.trans (n9.b.trans (n10.b.trans (n11.b.trans (n12.b.trans (n13.b.trans (n14.b.trans (n15.b.trans (n16.b.trans (n17.b.trans (n18.b.trans (n19.b.trans (n20.b.trans (n21.b.trans (n22.b.trans (n23.b.trans (n24.b.trans (n25.b.trans (n26.b.trans (n27.b.trans (n28.b.trans (n29.b.trans (n30.b.trans (n31.b.trans (n32.b.trans (n33.b.trans (n34.b.trans (n35.b.trans (n36.b.trans (n37.b.trans (n38.b))))))))))))))))))))))))))))))))))))) d1) .nil))) (by simp) fun p39 B39 H39 _ n39 d39 => ?_
    walk_at "sx"
    refine sx_newT (K := K) n39.h (.cons (.str "min") (.cons (Dp.up (n2.b.trans (n3.b.trans (n4.b.trans (n5.b.trans (n6.b.trans (n7.b.trans (n8.b.trans (n9.b.trans (n10.b.trans (n11.b.trans (n12.b.trans (n13.b.trans (n14.b.trans (n15.b.trans (n16.b.trans (n17.b.trans (n18.b.trans (n19.b.trans (n20.b.trans (n21.b.trans (n22.b.trans (n23.b.trans (n24.b.trans (n25.b.trans (n26.b.trans (n27.b.trans (n28.b.trans (n29.b.trans (n30.b.trans (n31.b.trans (n32.b.trans (n33.b.trans (n34.b.trans (n35.b.trans (n36.b.trans (n37.b.trans (n38.b.trans (n39.b)))))))))))))))))))))))))))))))))))))) d1) (.cons d39 .nil))) (by simp) fun p40 B40 H40 _ n40 d40 => ?_
    walk_at "sx"
    refine sx_newT (K := K) n40.h .nil (by simp) fun p41 B41 H41 _ n41 d41 => ?_
    walk_at "sx"
    refine sx_newT (K := K) n41.h (.cons d41 (.cons (Dp.up (n2.b.trans (n3.b.trans (n4.b.trans (n5.b.trans (n6.b.trans (n7.b.trans (n8.b.trans (n9.b.trans (n10.b.trans (n11.b.trans (n12.b.trans (n13.b.trans (n14.b.trans (n15.b.trans (n16.b.trans (n17.b.trans (n18.b.trans (n19.b.trans (n20.b.trans (n21.b.trans (n22.b.trans (n23.b.trans (n24.b.trans (n25.b.trans (n26.b.trans (n27.b.trans (n28.b.trans (n29.b.trans (n30.b.trans (n31.b.trans (n32.b.trans (n33.b.trans (n34.b.trans (n35.b.trans (n36.b.trans (n37.b.trans (n38.b.trans (n39.b.trans (n40.b.trans (n41.b)))))))))))))))))))))))))))))))))))))))) d1) (.cons (Dp.up (n2.b.trans (n3.b.trans (n4.b.trans (n5.b.trans (n6.b.trans (n7.b.trans (n8.b.trans (n9.b.trans (n10.b.trans (n11.b.trans (n12.b.trans (n13.b.trans (n14.b.trans (n15.b.trans (n16.b.trans (n17.b.trans (n18.b.trans (n19.b.trans (n20.b.trans (n21.b.trans (n22.b.trans (n23.b.trans (n24.b.trans (n25.b.trans (n26.b.trans (n27.b.trans (n28.b.trans (n29.b.trans (n30.b.trans (n31.b.trans (n32.b.trans (n33.b.trans (n34.b.trans (n35.b.trans (n36.b.trans (n37.b.trans (n38.b.trans (n39.b.trans (n40.b.trans (n41.b)))))))))))))))))))))))))))))))))))))))) d1) .nil))) (by simp) fun p42 B42 H42 _ n42 d42 => ?_
    walk_at "sx"
    refine sx_newM (B := B42) n42.h (by simp) fun p43 H43 hp43 n43 m43 => ?_
    have a43 : DpAll K B42 [.ref p32, .ref p33, .ref p34, .ref p35, .ref p36, .non, .int 0, .str "f", .ref p38, .ref p40, .ref p42] [.list [.str "number", .int 1], .tuple [.str "sum", .tuple [.str "field", .str s], .tuple [.str "field", .str s]], .tuple [], .tuple [.str "Plus", .tuple [.str "field", .str s], .tuple [.str "field", .str s]], .tuple [.int 1, .tuple [.str "field", .str s], .tuple [.str "field", .str s]], .none, .int 0, .str "f", .tuple [.str "rest", .tuple [.str "same", .tuple [.str "field", .str s], .tuple [.str "field", .str s]], .int 2], .tuple [.str "min", .tuple [.str "field", .str s], .tuple [.str "below", .tuple [.str "field", .str s], .tuple [.str "field", .str s]]], .tuple [.tuple [], .tuple [.str "field", .str s], .tuple [.str "field", .str s]]] := (.cons (Dp.up (n33.b.trans (n34.b.trans (n35.b.trans (n36.b.trans (n37.b.trans (n38.b.trans (n39.b.trans (n40.b.trans (n41.b.trans (n42.b)))))))))) d32) (.cons (Dp.up (n34.b.trans (n35.b.trans (n36.b.trans (n37.b.trans (n38.b.trans (n39.b.trans (n40.b.trans (n41.b.trans (n42.b))))))))) d33) (.cons (Dp.up (n35.b.trans (n36.b.trans (n37.b.trans (n38.b.trans (n39.b.trans (n40.b.trans (n41.b.trans (n42.b)))))))) d34) (.cons (Dp.up (n36.b.trans (n37.b.trans (n38.b.trans (n39.b.trans (n40.b.trans (n41.b.trans (n42.b))))))) d35) (.cons (Dp.up (n37.b.trans (n38.b.trans (n39.b.trans (n40.b.trans (n41.b.trans (n42.b)))))) d36) (.cons .non (.cons (.int 0) (.cons (.str "f") (.cons (Dp.up (n39.b.trans (n40.b.trans (n41.b.trans (n42.b)))) d38) (.cons (Dp.up (n41.b.trans (n42.b)) d40) (.cons d42 .nil)))))))))))
    walk_at "sx"
    refine sx_cat n43.h ((((((((((((m31.up n32).up n33).up n34).up n35).up n36).up n37).up n38).up n39).up n40).up n41).up n42).up n43).h m43.h (by simp) fun p44 H44 hp44 n44 m44 => ?_
    have a44 := Dps.app (Dps.up (n32.b.trans (n33.b.trans (n34.b.trans (n35.b.trans (n36.b.trans (n37.b.trans (n38.b.trans (n39.b.trans (n40.b.trans (n41.b.trans (n42.b.trans (n43.b)))))))))))) a31) a43
    exact k _ _ _ _ (((((((((((((((((((((((((((((((((((((((((((n1.tr n2).tr n3).tr n4).tr n5).tr n6).tr n7).tr n8).tr n9).tr n10).tr n11).tr n12).tr n13).tr n14).tr n15).tr n16).tr n17).tr n18).tr n19).tr n20).tr n21).tr n22).tr n23).tr n24).tr n25).tr n26).tr n27).tr n28).tr n29).tr n30).tr n31).tr n32).tr n33).tr n34).tr n35).tr n36).tr n37).tr n38).tr n39).tr n40).tr n41).tr n42).tr n43).tr n44) (((((((((((((((((((((((((((((((((((((((((((n1.tr n2).tr n3).tr n4).tr n5).tr n6).tr n7).tr n8).tr n9).tr n10).tr n11).tr n12).tr n13).tr n14).tr n15).tr n16).tr n17).tr n18).tr n19).tr n20).tr n21).tr n22).tr n23).tr n24).tr n25).tr n26).tr n27).tr n28).tr n29).tr n30).tr n31).tr n32).tr n33).tr n34).tr n35).tr n36).tr n37).tr n38).tr n39).tr n40).tr n41).tr n42).tr n43).ex.free hp44) m44 a44

def badT (s : Str) : List PyData := ((([.tuple [.str "field", .str s], .tuple [.str "number", .int 1], .tuple [.str "same", .tuple [.str "field", .str s]], .tuple [.str "same", .tuple [.str "field", .str s], .tuple [.str "field", .str s], .tuple [.str "field", .str s]], .tuple [.str "below", .tuple [.str "field", .str s], .int 1], .tuple [.str "below", .tuple [.str "same", .tuple [.str "field", .str s], .tuple [.str "field", .str s]], .tuple [.str "field", .str s]], .tuple [.str "not"], .tuple [.str "not", .tuple [.str "field", .str s]], .tuple [.str "not", .tuple [.str "same", .tuple [.str "field", .str s], .tuple [.str "field", .str s]], .tuple [.str "same", .tuple [.str "field", .str s], .tuple [.str "field", .str s]]]] ++ [.tuple [.str "and", .tuple [.str "same", .tuple [.str "field", .str s], .tuple [.str "field", .str s]]], .tuple [.str "and", .tuple [.str "same", .tuple [.str "field", .str s], .tuple [.str "field", .str s]], .tuple [.str "field", .str s]], .tuple [.str "or", .tuple [.str "same", .tuple [.str "field", .str s], .tuple [.str "field", .str s]], .tuple [.str "same", .tuple [.str "field", .str s], .tuple [.str "field", .str s]], .tuple [.str "same", .tuple [.str "field", .str s], .tuple [.str "field", .str s]]], .tuple [.str "or", .none, .tuple [.str "same", .tuple [.str "field", .str s], .tuple [.str "field", .str s]]]]) ++ [.list [.str "same", .tuple [.str "field", .str s], .tuple [.str "field", .str s]], .tuple [.str "Same", .tuple [.str "field", .str s], .tuple [.str "field", .str s]], .tuple [.str "equal", .tuple [.str "field", .str s], .tuple [.str "field", .str s]], .tuple [], .none, .bool true, .int 0, .str "f", .tuple [.str "and", .list [.tuple [.str "same", .tuple [.str "field", .str s], .tuple [.str "field", .str s]]], .tuple [.str "same", .tuple [.str "field", .str s], .tuple [.str "field", .str s]]], .tuple [.str "not", .none]]) ++ [.tuple [.str "same", .tuple [.str "field", .str s], .tuple [.str "field", .str "zz"]], .tuple [.str "below", .tuple [.str "field", .str s], .tuple [.str "div", .tuple [.str "field", .str s], .int 0]]])
theorem ok_law_bad_tests (T : Txt w K mg) : Has P w K mg base "_law_bad_tests" s_law_bad_tests 1 ["names"] (spBad K badT) := by
  refine has_mk T.d_law_bad_tests sc_law_bad_tests (fun _ _ _ _ _ _ us hl => match us, hl with | [_], _ => rfl) (fun vs H Q E h => ?_) (fun f cdv A outer s' H vs Q E hr h => ?_)
  · obtain ⟨_, _, _, _, rfl, _⟩ := h
    rfl
  · obtain ⟨B, a, s, r, rfl, e, hS, k⟩ := h
    refine ⟨_, (pss_cons (ps_set (i := 1) sc_law_bad_tests.nd rfl (.inl rfl) (pe_tup (pa_cons pe_str (pa_cons (pe_ix ix_list (pv 0) pe_int (fun _ _ => rfl)) pa_nil))))
      (pss_cons (ps_set (i := 2) sc_law_bad_tests.nd rfl (.inl rfl) (pe_tup (pa_cons pe_str (pa_cons (pv 1) (pa_cons (pv 1) pa_nil)))))
      (pss_cons (ps_set (i := 3) sc_law_bad_tests.nd rfl (.inl rfl) (pe_lst (pa_cons (pv 1) (pa_cons (pe_tup (pa_cons pe_str (pa_cons pe_int pa_nil))) (pa_cons (pe_tup (pa_cons pe_str (pa_cons (pv 1) pa_nil))) (pa_cons (pe_tup (pa_cons pe_str (pa_cons (pv 1) (pa_cons (pv 1) (pa_cons (pv 1) pa_nil))))) (pa_cons (pe_tup (pa_cons pe_str (pa_cons (pv 1) (pa_cons pe_int pa_nil)))) (pa_cons (pe_tup (pa_cons pe_str (pa_cons (pv 2) (pa_cons (pv 1) pa_nil)))) (pa_cons (pe_tup (pa_cons pe_str pa_nil)) (pa_cons (pe_tup (pa_cons pe_str (pa_cons (pv 1) pa_nil))) (pa_cons (pe_tup (pa_cons pe_str (pa_cons (pv 2) (pa_cons (pv 2) pa_nil)))) pa_nil)))))))))))
      (pss_cons (ps_set (i := 3) sc_law_bad_tests.nd rfl (.inl rfl) (pe_op op_cat (pv 3) (pe_lst (pa_cons (pe_tup (pa_cons pe_str (pa_cons (pv 2) pa_nil))) (pa_cons (pe_tup (pa_cons pe_str (pa_cons (pv 2) (pa_cons (pv 1) pa_nil)))) (pa_cons (pe_tup (pa_cons pe_str (pa_cons (pv 2) (pa_cons (pv 2) (pa_cons (pv 2) pa_nil))))) (pa_cons (pe_tup (pa_cons pe_str (pa_cons pe_non (pa_cons (pv 2) pa_nil)))) pa_nil)))))))
      (pss_cons (ps_set (i := 3) sc_law_bad_tests.nd rfl (.inl rfl) (pe_op op_cat (pv 3) (pe_lst (pa_cons (pe_lst (pa_cons pe_str (pa_cons (pv 1) (pa_cons (pv 1) pa_nil)))) (pa_cons (pe_tup (pa_cons pe_str (pa_cons (pv 1) (pa_cons (pv 1) pa_nil)))) (pa_cons (pe_tup (pa_cons pe_str (pa_cons (pv 1) (pa_cons (pv 1) pa_nil)))) (pa_cons (pe_tup pa_nil) (pa_cons pe_non (pa_cons pe_bl (pa_cons pe_int (pa_cons pe_str (pa_cons (pe_tup (pa_cons pe_str (pa_cons (pe_lst (pa_cons (pv 2) pa_nil)) (pa_cons (pv 2) pa_nil)))) (pa_cons (pe_tup (pa_cons pe_str (pa_cons pe_non pa_nil))) pa_nil)))))))))))))
      (pss_one (ps_ret (pe_op op_cat (pv 3) (pe_lst (pa_cons (pe_tup (pa_cons pe_str (pa_cons (pv 1) (pa_cons (pe_tup (pa_cons pe_str (pa_cons pe_str pa_nil))) pa_nil)))) (pa_cons (pe_tup (pa_cons pe_str (pa_cons (pv 1) (pa_cons (pe_tup (pa_cons pe_str (pa_cons (pv 1) (pa_cons pe_int pa_nil)))) pa_nil)))) pa_nil))))))))))), ?_⟩
    walk_at "go"
    refine sx_ixL (hS) (at0 (x := V.str s)) ?_
    walk_at "sx"
    refine sx_newT (K := K) e (.cons (.str "field") (.cons (.str s) .nil)) (by simp) fun p1 B1 H1 _ n1 d1 => ?_
    walk_at "sx"
    walk_at "st"
    walk_at "sx"
    refine sx_newT (K := K) n1.h (.cons (.str "same") (.cons d1 (.cons d1 .nil))) (by simp) fun p2 B2 H2 _ n2 d2 => ?_
    walk_at "sx"
    walk_at "st"
    walk_at "sx"
    refine sx_newT (K := K) n2.h (.cons (.str "number") (.cons (.int 1) .nil)) (by simp) fun p3 B3 H3 _ n3 d3 => ?_
    walk_at "sx"
    refine sx_newT (K := K) n3.h (.cons (.str "same") (.cons (Dp.up (n2.b.trans (n3.b)) d1) .nil)) (by simp) fun p4 B4 H4 _ n4 d4 => ?_
    walk_at "sx"
    refine sx_newT (K := K) n4.h (.cons (.str "same") (.cons (Dp.up (n2.b.trans (n3.b.trans (n4.b))) d1) (.cons (Dp.up (n2.b.trans (n3.b.trans (n4.b))) d1) (.cons (Dp.up (n2.b.trans (n3.b.trans (n4.b))) d1) .nil)))) (by simp) fun p5 B5 H5 _ n5 d5 => ?_
    walk_at "sx"
    refine sx_newT (K := K) n5.h (.cons (.str "below") (.cons (Dp.up (n2.b.trans (n3.b.trans (n4.b.trans (n5.b)))) d1) (.cons (.int 1) .nil))) (by simp) fun p6 B6 H6 _ n6 d6 => ?_
    walk_at "sx"
    refine sx_newT (K := K) n6.h (.cons (.str "below") (.cons (Dp.up (n3.b.trans (n4.b.trans (n5.b.trans (n6.b)))) d2) (.cons (Dp.up (n2.b.trans (n3.b.trans (n4.b.trans (n5.b.trans (n6.b))))) d1) .nil))) (by simp) fun p7 B7 H7 _ n7 d7 => ?_
    walk_at "sx"
    refine sx_newT (K := K) n7.h (.cons (.str "not") .nil) (by simp) fun p8 B8 H8 _ n8 d8 => ?_
    walk_at "sx"
    refine sx_newT (K := K) n8.h (.cons (.str "not") (.cons (Dp.up (n2.b.trans (n3.b.trans (n4.b.trans (n5.b.trans (n6.b.trans (n7.b.trans (n8.b))))))) d1) .nil)) (by simp) fun p9 B9 H9 _ n9 d9 => ?_
    walk_at "sx"
    refine sx_newT (K := K) n9.h (.cons (.str "not") (.cons (Dp.up (n3.b.trans (n4.b.trans (n5.b.trans (n6.b.trans (n7.b.trans (n8.b.trans (n9.b))))))) d2) (.cons (Dp.up (n3.b.trans (n4.b.trans (n5.b.trans (n6.b.trans (n7.b.trans (n8.b.trans (n9.b))))))) d2) .nil))) (by simp) fun p10 B10 H10 _ n10 d10 => ?_
    walk_at "sx"
    refine sx_newM (B := B10) n10.h (by simp) fun p11 H11 hp11 n11 m11 => ?_
    have a11 : DpAll K B10 [.ref p1, .ref p3, .ref p4, .ref p5, .ref p6, .ref p7, .ref p8, .ref p9, .ref p10] [.tuple [.str "field", .str s], .tuple [.str "number", .int 1], .tuple [.str "same", .tuple [.str "field", .str s]], .tuple [.str "same", .tuple [.str "field", .str s], .tuple [.str "field", .str s], .tuple [.str "field", .str s]], .tuple [.str "below", .tuple [.str "field", .str s], .int 1], .tuple [.str "below", .tuple [.str "same", .tuple [.str "field", .str s], .tuple [.str "field", .str s]], .tuple [.str "field", .str s]], .tuple [.str "not"], .tuple [.str "not", .tuple [.str "field", .str s]], .tuple [.str "not", .tuple [.str "same", .tuple [.str "field", .str s], .tuple [.str "field", .str s]], .tuple [.str "same", .tuple [.str "field", .str s], .tuple [.str "field", .str s]]]] := (.cons (Dp.up (n2.b.trans (n3.b.trans (n4.b.trans (n5.b.trans (n6.b.trans (n7.b.trans (n8.b.trans (n9.b.trans (n10.b))))))))) d1) (.cons (Dp.up (n4.b.trans (n5.b.trans (n6.b.trans (n7.b.trans (n8.b.trans (n9.b.trans (n10.b))))))) d3) (.cons (Dp.up (n5.b.trans (n6.b.trans (n7.b.trans (n8.b.trans (n9.b.trans (n10.b)))))) d4) (.cons (Dp.up (n6.b.trans (n7.b.trans (n8.b.trans (n9.b.trans (n10.b))))) d5) (.cons (Dp.up (n7.b.trans (n8.b.trans (n9.b.trans (n10.b)))) d6) (.cons (Dp.up (n8.b.trans (n9.b.trans (n10.b))) d7) (.cons (Dp.up (n9.b.trans (n10.b)) d8) (.cons (Dp.up (n10.b) d9) (.cons d10 .nil)))))))))
    walk_at "sx"
    walk_at "st"
    walk_at "sx"
    refine sx_newT (K := K) n11.h (.cons (.str "and") (.cons (Dp.up (n3.b.trans (n4.b.trans (n5.b.trans (n6.b.trans (n7.b.trans (n8.b.trans (n9.b.trans (n10.b.trans (n11.b))))))))) d2) .nil)) (by simp) fun p12 B12 H12 _ n12 d12 => ?_
    walk_at "sx"
    refine sx_newT (K := K) n12.h (.cons (.str "and") (.cons (Dp.up (n3.b.trans (n4.b.trans (n5.b.trans (n6.b.trans (n7.b.trans (n8.b.trans (n9.b.trans (n10.b.trans (n11.b.trans (n12.b)))))))))) d2) (.cons (Dp.up (n2.b.trans (n3.b.trans (n4.b.trans (n5.b.trans (n6.b.trans (n7.b.trans (n8.b.trans (n9.b.trans (n10.b.trans (n11.b.trans (n12.b))))))))))) d1) .nil))) (by simp) fun p13 B13 H13 _ n13 d13 => ?_
    walk_at "sx"
    refine sx_newT (K := K) n13.h (.cons (.str "or") (.cons (Dp.up (n3.b.trans (n4.b.trans (n5.b.trans (n6.b.trans (n7.b.trans (n8.b.trans (n9.b.trans (n10.b.trans (n11.b.trans (n12.b.trans (n13.b))))))))))) d2) (.cons (Dp.up (n3.b.trans (n4.b.trans (n5.b.trans (n6.b.trans (n7.b.trans (n8.b.trans (n9.b.trans (n10.b.trans (n11.b.trans (n12.b.trans (n13.b))))))))))) d2) (.cons (Dp.up (n3.b.trans (n4.b.trans (n5.b.trans (n6.b.trans (n7.b.trans (n8.b.trans (n9.b.trans (n10.b.trans (n11.b.trans (n12.b.trans (n13.b))))))))))) d2) .nil)))) (by simp) fun p14 B14 H14 _ n14 d14 => ?_
    walk_at "sx"
    refine sx_newT (K := K) n14.h (.cons (.str "or") (.cons .non (.cons (Dp.up (n3.b.trans (n4.b.trans (n5.b.trans (n6.b.trans (n7.b.trans (n8.b.trans (n9.b.trans (n10.b.trans (n11.b.trans (n12.b.trans (n13.b.trans (n14.b)))))))))))) d2) .nil))) (by simp) fun p15 B15 H15 _ n15 d15 => ?_
    walk_at "sx"
    refine sx_newM (B := B15) n15.h (by simp) fun p16 H16 hp16 n16 m16 => ?_
    have a16 : DpAll K B15 [.ref p12, .ref p13, .ref p14, .ref p15] [.tuple [.str "and", .tuple [.str "same", .tuple [.str "field", .str s], .tuple [.str "field", .str s]]], .tuple [.str "and", .tuple [.str "same", .tuple [.str "field", .str s], .tuple [.str "field", .str s]], .tuple [.str "field", .str s]], .tuple [.str "or", .tuple [.str "same", .tuple [.str "field", .str s], .tuple [.str "field", .str s]], .tuple [.str "same", .tuple [.str "field", .str s], .tuple [.str "field", .str s]], .tuple [.str "same", .tuple [.str "field", .str s], .tuple [.str "field", .str s]]], .tuple [.str "or", .none, .tuple [.str "same", .tuple [.str "field", .str s], .tuple [.str "field", .str s]]]] := (.cons (Dp.up (n13.b.trans (n14.b.trans (n15.b))) d12) (.cons (Dp.up (n14.b.trans (n15.b)) d13) (.cons (Dp.up (n15.b) d14) (.cons d15 .nil))))
    walk_at "sx"
    refine sx_cat n16.h (((((m11.up n12).up n13).up n14).up n15).up n16).h m16.h (by simp) fun p17 H17 hp17 n17 m17 => ?_
    have a17 := Dps.app (Dps.up (n12.b.trans (n13.b.trans (n14.b.trans (n15.b.trans (n16.b))))) a11) a16
    walk_at "sx"
    walk_at "st"
    walk_at "sx"
    refine sx_newL (K := K) n17.h (.cons (.str "same") (.cons (Dp.up (n2.b.trans (n3.b.trans (n4.b.trans (n5.b.trans (n6.b.trans (n7.b.trans (n8.b.trans (n9.b.trans (n10.b.trans (n11.b.trans (n12.b.trans (n13.b.trans (n14.b.trans (n15.b.trans (n16.b.trans (n17.b)))))))))))))))) d1) (.cons (Dp.up (n2.b.trans (n3.b.trans (n4.b.trans (n5.b.trans (n6.b.trans (n7.b.trans (n8.b.trans (n9.b.trans (n10.b.trans (n11.b.trans (n12.b.trans (n13.b.trans (n14.b.trans (n15.b.trans (n16.b.trans (n17.b)))))))))))))))) d1) .nil))) (by simp) fun p18 B18 H18 _ n18 d18 => ?_
    walk_at "sx"
    refine sx_newT (K := K) n18.h (.cons (.str "Same") (.cons (Dp.up (n2.b.trans (n3.b.trans (n4.b.trans (n5.b.trans (n6.b.trans (n7.b.trans (n8.b.trans (n9.b.trans (n10.b.trans (n11.b.trans (n12.b.trans (n13.b.trans (n14.b.trans (n15.b.trans (n16.b.trans (n17.b.trans (n18.b))))))))))))))))) d1) (.cons (Dp.up (n2.b.trans (n3.b.trans (n4.b.trans (n5.b.trans (n6.b.trans (n7.b.trans (n8.b.trans (n9.b.trans (n10.b.trans (n11.b.trans (n12.b.trans (n13.b.trans (n14.b.trans (n15.b.trans (n16.b.trans (n17.b.trans (n18.b))))))))))))))))) d1) .nil))) (by simp) fun p19 B19 H19 _ n19 d19 => ?_
    walk_at "sx"
    refine sx_newT (K := K) n19.h (.cons (.str "equal") (.cons (Dp.up (n2.b.trans (n3.b.trans (n4.b.trans (n5.b.trans (n6.b.trans (n7.b.trans (n8.b.trans (n9.b.trans (n10.b.trans (n11.b.trans (n12.b.trans (n13.b.trans (n14.b.trans (n15.b.trans (n16.b.trans (n17.b.trans (n18.b.trans (n19.b)))))))))))))))))) d1) (.cons (Dp.up (n2.b.trans (n3.b.trans (n4.b.trans (n5.b.trans (n6.b.trans (n7.b.trans (n8.b.trans (n9.b.trans (n10.b.trans (n11.b.trans (n12.b.trans (n13.b.trans (n14.b.trans (n15.b.trans (n16.b.trans (n17.b.trans (n18.b.trans (n19.b)))))))))))))))))) d1) .nil))) (by simp) fun p20 B20 H20 _ n20 d20 => ?_
    walk_at "sx"
    refine sx_newT (K := K) n20.h .nil (by simp) fun p21 B21 H21 _ n21 d21 => ?_
    walk_at "sx"
    refine sx_newL (K := K) n21.h (.cons (Dp.up (n3.b.trans (n4.b.trans (n5.b.trans (n6.b.trans (n7.b.trans (n8.b.trans (n9.b.trans (n10.b.trans (n11.b.trans (n12.b.trans (n13.b.trans (n14.b.trans (n15.b.trans (n16.b.trans (n17.b.trans (n18.b.trans (n19.b.trans (n20.b.trans (n21.b))))))))))))))))))) d2) .nil) (by simp) fun p22 B22 H22 _ n22 d22 => ?_
    walk_at "sx"
    refine sx_newT (K := K) n22.h (.cons (.str "and") (.cons d22 (.cons (Dp.up (n3.b.trans (n4.b.trans (n5.b.trans (n6.b.trans (n7.b.trans (n8.b.trans (n9.b.trans (n10.b.trans (n11.b.trans (n12.b.trans (n13.b.trans (n14.b.trans (n15.b.trans (n16.b.trans (n17.b.trans (n18.b.trans (n19.b.trans (n20.b.trans (n21.b.trans (n22.b)))))))))))))))))))) d2) .nil))) (by simp) fun p23 B23 H23 _ n23 d23 => ?_
    walk_at "sx"
    refine sx_newT (K := K) n23.h (.cons (.str "not") (.cons .non .nil)) (by simp) fun p24 B24 H24 _ n24 d24 => ?_
    walk_at "sx"
    refine sx_newM (B := B24) n24.h (by simp) fun p25 H25 hp25 n25 m25 => ?_
    have a25 : DpAll K B24 [.ref p18, .ref p19, .ref p20, .ref p21, .non, .bl true, .int 0, .str "f", .ref p23, .ref p24] [.list [.str "same", .tuple [.str "field", .str s], .tuple [.str "field", .str s]], .tuple [.str "Same", .tuple [.str "field", .str s], .tuple [.str "field", .str s]], .tuple [.str "equal", .tuple [.str "field", .str s], .tuple [.str "field", .str s]], .tuple [], .none, .bool true, .int 0, .str "f", .tuple [.str "and", .list [.tuple [.str "same", .tuple [.str "field", .str s], .tuple [.str "field", .str s]]], .tuple [.str "same", .tuple [.str "field", .str s], .tuple [.str "field", .str s]]], .tuple [.str "not", .none]] := (.cons (Dp.up (n19.b.trans (n20.b.trans (n21.b.trans (n22.b.trans (n23.b.trans (n24.b)))))) d18) (.cons (Dp.up (n20.b.trans (n21.b.trans (n22.b.trans (n23.b.trans (n24.b))))) d19) (.cons (Dp.up (n21.b.trans (n22.b.trans (n23.b.trans (n24.b)))) d20) (.cons (Dp.up (n22.b.trans (n23.b.trans (n24.b))) d21) (.cons .non (.cons (.bl true) (.cons (.int 0) (.cons (.str "f") (.cons (Dp.up (n24.b) d23) (.cons d24 .nil))))))))))
    walk_at "sx"
    refine sx_cat n25.h ((((((((m17.up n18).up n19).up n20).up n21).up n22).up n23).up n24).up n25).h m25.h (by simp) fun p26 H26 hp26 n26 m26 => ?_
    have a26 := Dps.app (Dps.up (n18.b.trans (n19.b.trans (n20.b.trans (n21.b.trans (n22.b.trans (n23.b.trans (n24.b.trans (n25.b)))))))) a17) a25
    walk_at "sx"
    walk_at "st"
    walk_at "sx"
    refine sx_newT (K := K) n26.h (.cons (.str "field") (.cons (.str "zz") .nil)) (by simp) fun p27 B27 H27 _ n27 d27 => ?_
    walk_at "sx"
    refine sx_newT (K := K) n27.h (.cons (.str "same") (.cons (Dp.up (n2.b.trans (n3.b.trans (n4.b.trans (n5.b.trans (n6.b.trans (n7.b.trans (n8.b.trans (n9.b.trans (n10.b.trans (n11.b.trans (n12.b.trans (n13.b.trans (n14.b.trans (n15.b.trans (n16.b.trans (n17.b.trans (n18.b.trans (n19.b.trans (n20.b.trans (n21.b.trans (n22.b.trans (n23.b.trans (n24.b.trans (n25.b.trans (n26.b.trans (n27.b)))))))))))))))))))))))))) d1) (.cons d27 .nil))) (by simp) fun p28 B28 H28 _ n28 d28 => ?_
    walk_at "sx"
    refine sx_newT (K := K) n28.h (.cons (.str "div") (.cons (Dp.up (n2.b.trans (n3.b.trans (n4.b.trans (n5.b.trans (n6.b.trans (n7.b.trans (n8.b.trans (n9.b.trans (n10.b.trans (n11.b.trans (n12.b.trans (n13.b.trans (n14.b.trans (n15.b.trans (n16.b.trans (n17.b.trans (n18.b.trans (n19.b.trans (n20.b.trans (n21.b.trans (n22.b.trans (n23.b.trans (n24.b.trans (n25.b.trans (n26.b.trans (n27.b.trans (n28.b))))))))))))))))))))))))))) d1) (.cons (.int 0) .nil))) (by simp) fun p29 B29 H29 _ n29 d29 => ?_
    walk_at "sx"
    refine sx_newT (K := K) n29.h (.cons (.str "below") (.cons (Dp.up (n2.b.trans (n3.b.trans (n4.b.trans (n5.b.trans (n6.b.trans (n7.b.trans (n8.b.trans (n9.b.trans (n10.b.trans (n11.b.trans (n12.b.trans (n13.b.trans (n14.b.trans (n15.b.trans (n16.b.trans (n17.b.trans (n18.b.trans (n19.b.trans (n20.b.trans (n21.b.trans (n22.b.trans (n23.b.trans (n24.b.trans (n25.b.trans (n26.b.trans (n27.b.trans (n28.b.trans (n29.b)))))))))))))))))))))))))))) d1) (.cons d29 .nil))) (by simp) fun p30 B30 H30 _ n30 d30 => ?_
    walk_at "sx"
    refine sx_newM (B := B30) n30.h (by simp) fun p31 H31 hp31 n31 m31 => ?_
    have a31 : DpAll K B30 [.ref p28, .ref p30] [.tuple [.str "same", .tuple [.str "field", .str s], .tuple [.str "field", .str "zz"]], .tuple [.str "below", .tuple [.str "field", .str s], .tuple [.str "div", .tuple [.str "field", .str s], .int 0]]] := (.cons (Dp.up (n29.b.trans (n30.b)) d28) (.cons d30 .nil))
    walk_at "sx"
    refine sx_cat n31.h (((((m26.up n27).up n28).up n29).up n30).up n31).h m31.h (by simp) fun p32 H32 hp32 n32 m32 => ?_
    have a32 := Dps.app (Dps.up (n27.b.trans (n28.b.trans (n29.b.trans (n30.b.trans (n31.b))))) a26) a31
    exact k _ _ _ _ (((((((((((((((((((((((((((((((n1.tr n2).tr n3).tr n4).tr n5).tr n6).tr n7).tr n8).tr n9).tr n10).tr n11).tr n12).tr n13).tr n14).tr n15).tr n16).tr n17).tr n18).tr n19).tr n20).tr n21).tr n22).tr n23).tr n24).tr n25).tr n26).tr n27).tr n28).tr n29).tr n30).tr n31).tr n32) (((((((((((((((((((((((((((((((n1.tr n2).tr n3).tr n4).tr n5).tr n6).tr n7).tr n8).tr n9).tr n10).tr n11).tr n12).tr n13).tr n14).tr n15).tr n16).tr n17).tr n18).tr n19).tr n20).tr n21).tr n22).tr n23).tr n24).tr n25).tr n26).tr n27).tr n28).tr n29).tr n30).tr n31).ex.free hp32) m32 a32

end
end C
namespace C
open PySem L2 G
section
variable {P : Program} {w : World} {K : PySem.W.Frag} {mg : Str → Option Value} {base : Heap}
/-! ### wrong things are wrong -/
theorem fm_nil {α : Type} {Q : α → Prop} : ∀ x ∈ ([] : List α), Q x := fun _ h => nomatch h
theorem fm_cons {α : Type} {Q : α → Prop} {x : α} {r : List α} (h : Q x) (t : ∀ y ∈ r, Q y) : ∀ y ∈ x :: r, Q y := fun y hy => (List.mem_cons.mp hy).elim (fun z => z ▸ h) (t y)
theorem fm_app {α : Type} {Q : α → Prop} {a b : List α} (h : ∀ y ∈ a, Q y) (t : ∀ y ∈ b, Q y) : ∀ y ∈ a ++ b, Q y := fun y hy => (List.mem_append.mp hy).elim (h y) (t y)
theorem x_0 {ns : List Str} {w : Str} {ds : List PyData} (h : w ∈ (["number", "field"] : List Str)) : exprP ns w ds = plainP ns w ds := if_pos h
theorem x_2 {ns : List Str} {w : Str} {ds : List PyData} (h : w ∈ (["plus", "less", "times", "min", "max"] : List Str)) : exprP ns w ds = two ds fun x y => some [srt "expression" x, srt "expression" y] := by
  rw [exprP, if_neg (w_two w h), if_pos h]
theorem x_3 {ns : List Str} {w : Str} {ds : List PyData} (h : w ∈ (["div", "rest"] : List Str)) : exprP ns w ds = two ds fun x y => if isPos y then some [srt "expression" x] else none := by
  rw [exprP, if_neg (w_cut w h).1, if_neg (w_cut w h).2, if_pos h]
theorem x_4 {ns : List Str} {w : Str} {ds : List PyData} (h : w ∉ (["number", "field"] : List Str) ∧ w ∉ (["plus", "less", "times", "min", "max"] : List Str) ∧ w ∉ (["div", "rest"] : List Str)) : exprP ns w ds = none := by
  rw [exprP, if_neg h.1, if_neg h.2.1, if_neg h.2.2]
theorem y_0 {w : Str} {ds : List PyData} (h : w ≠ "not" ∧ w ∉ (["same", "below", "and", "or"] : List Str)) : condP w ds = none := by
  rw [condP, if_neg h.1, if_neg h.2]
theorem y_4 {w : Str} {ds : List PyData} (h : w ≠ "not" ∧ w ∈ (["same", "below", "and", "or"] : List Str)) : condP w ds = two ds fun x y => if w ∈ (["same", "below"] : List Str) then some [srt "expression" x, srt "expression" y] else some [srt "condition" x, srt "condition" y] := by
  rw [condP, if_neg h.1, if_pos h.2]
theorem y_5 {w : Str} {x y : PyData} (h : w ∈ (["same", "below"] : List Str)) : condP w [x, y] = some [srt "expression" x, srt "expression" y] := by
  rw [y_4 (w_cmp w h)]
  show (if w ∈ (["same", "below"] : List Str) then some [srt "expression" x, srt "expression" y] else some [srt "condition" x, srt "condition" y]) = _
  rw [if_pos h]
theorem y_6 {w : Str} {x y : PyData} (h : w ∈ (["and", "or"] : List Str)) : condP w [x, y] = some [srt "condition" x, srt "condition" y] := by
  rw [y_4 ⟨(w_and w h).1, (w_and w h).2.1⟩]
  show (if w ∈ (["same", "below"] : List Str) then some [srt "expression" x, srt "expression" y] else some [srt "condition" x, srt "condition" y]) = _
  rw [if_neg (w_and w h).2.2]
theorem y_n {ds : List PyData} : condP "not" ds = one ds fun x => some [srt "condition" x] := if_pos rfl
theorem pl_n {ns : List Str} {x : PyData} : plainP ns "number" [x] = if isIntg x then some [] else none := by simp only [plainP, if_true]
theorem pl_f {ns : List Str} {x : PyData} : plainP ns "field" [x] = match x with
    | .str z => if z ∈ ns then some [] else none
    | _ => none := by
  have h : ("field" : Str) ≠ "number" := by decide +kernel
  cases x <;> simp only [plainP, if_neg h]
theorem wr_zz {ns : List Str} (hz : ("zz" : Str) ∉ ns) : rightD ns (srt "expression" (.tuple [.str "field", .str "zz"])) = false := by
  refine wrong_no ?_
  rw [parts_e, x_0 (by decide +kernel)]
  rw [pl_f]
  exact if_neg hz
theorem bad_sums {ns : List Str} (s : Str) (hz : ("zz" : Str) ∉ ns) : ∀ d ∈ badS s, rightD ns (srt "expression" d) = false :=
    (fm_app (fm_app (fm_app (fm_app (fm_cons (wrong_no (by rw [parts_e, x_0 (by decide +kernel)]; rfl))
      (fm_cons (wrong_no (by rw [parts_e, x_0 (by decide +kernel)]; rw [pl_n]; rfl))
      (fm_cons (wrong_no (by rw [parts_e, x_0 (by decide +kernel)]; rw [pl_n]; rfl))
      (fm_cons (wrong_no (by rw [parts_e, x_0 (by decide +kernel)]; rw [pl_n]; rfl))
      (fm_cons (wrong_no (by rw [parts_e, x_0 (by decide +kernel)]; rfl))
      (fm_cons (wr_zz hz)
      (fm_cons (wrong_no (by rw [parts_e, x_0 (by decide +kernel)]; first | rfl | (rw [pl_f])))
      (fm_cons (wrong_no (by rw [parts_e, x_0 (by decide +kernel)]; first | rfl | (rw [pl_f])))
      fm_nil))))))))
    (fm_cons (wrong_no (by rw [parts_e, x_0 (by decide +kernel)]; first | rfl | (rw [pl_f])))
      (fm_cons (wrong_no (by rw [parts_e, x_2 (by decide +kernel)]; rfl))
      (fm_cons (wrong_no (by rw [parts_e, x_2 (by decide +kernel)]; rfl))
      fm_nil))))
    (fm_cons (wrong_by (by rw [parts_e, x_2 (by decide +kernel)]; rfl) (List.mem_cons_of_mem _ (List.mem_cons_self ..)) (rightD_no _ _ rfl))
      (fm_cons (wrong_by (by rw [parts_e, x_2 (by decide +kernel)]; rfl) (List.mem_cons_of_mem _ (List.mem_cons_self ..)) (rightD_no _ _ rfl))
      (fm_cons (wrong_no (by rw [parts_e, x_3 (by decide +kernel)]; rfl))
      (fm_cons (wrong_no (by rw [parts_e, x_3 (by decide +kernel)]; rfl))
      (fm_cons (wrong_no (by rw [parts_e, x_3 (by decide +kernel)]; rfl))
      (fm_cons (wrong_no (by rw [parts_e, x_3 (by decide +kernel)]; rfl))
      (fm_cons (wrong_no (by rw [parts_e, x_3 (by decide +kernel)]; rfl))
      fm_nil))))))))
    (fm_cons (wrong_no (by rw [parts_e, x_3 (by decide +kernel)]; rfl))
      (fm_cons (wrong_no (by rw [parts_e, x_2 (by decide +kernel)]; rfl))
      (fm_cons (wrong_no (by rw [parts_e, x_2 (by decide +kernel)]; rfl))
      (fm_cons (wrong_no (by rw [parts_e, x_4 (by decide +kernel)]))
      (fm_cons (wrong_no (by rw [parts_e, x_4 (by decide +kernel)]))
      fm_nil))))))
    (fm_cons (rightD_no _ _ rfl)
      (fm_cons (wrong_no (by rw [parts_e, x_4 (by decide +kernel)]))
      (fm_cons (rightD_no _ _ rfl)
      (fm_cons (wrong_no (by rw [parts_e, x_4 (by decide +kernel)]))
      (fm_cons (rightD_no _ _ rfl)
      (fm_cons (rightD_no _ _ rfl)
      (fm_cons (rightD_no _ _ rfl)
      (fm_cons (rightD_no _ _ rfl)
      (fm_cons (wrong_by (by rw [parts_e, x_3 (by decide +kernel)]; rfl) (List.mem_cons_self ..) (wrong_no (by rw [parts_e, x_4 (by decide +kernel)])))
      (fm_cons (wrong_by (by rw [parts_e, x_2 (by decide +kernel)]; rfl) (List.mem_cons_of_mem _ (List.mem_cons_self ..)) (wrong_no (by rw [parts_e, x_4 (by decide +kernel)])))
      (fm_cons (rightD_no _ _ rfl)
      fm_nil))))))))))))
theorem bad_tests {ns : List Str} (s : Str) (hz : ("zz" : Str) ∉ ns) : ∀ d ∈ badT s, rightD ns (srt "condition" d) = false :=
    (fm_app (fm_app (fm_app (fm_cons (wrong_no (by rw [parts_c, y_0 (by decide +kernel)]))
      (fm_cons (wrong_no (by rw [parts_c, y_0 (by decide +kernel)]))
      (fm_cons (wrong_no (by rw [parts_c, y_4 (by decide +kernel)]; rfl))
      (fm_cons (wrong_no (by rw [parts_c, y_4 (by decide +kernel)]; rfl))
      (fm_cons (wrong_by (by rw [parts_c, y_5 (by decide +kernel)]) (List.mem_cons_of_mem _ (List.mem_cons_self ..)) (rightD_no _ _ rfl))
      (fm_cons (wrong_by (by rw [parts_c, y_5 (by decide +kernel)]) (List.mem_cons_self ..) (wrong_no (by rw [parts_e, x_4 (by decide +kernel)])))
      (fm_cons (wrong_no (by rw [parts_c, y_n]; rfl))
      (fm_cons (wrong_by (parts_neg _) (List.mem_cons_self ..) (wrong_no (by rw [parts_c, y_0 (by decide +kernel)])))
      (fm_cons (wrong_no (by rw [parts_c, y_n]; rfl))
      fm_nil)))))))))
    (fm_cons (wrong_no (by rw [parts_c, y_4 (by decide +kernel)]; rfl))
      (fm_cons (wrong_by (by rw [parts_c, y_6 (by decide +kernel)]) (List.mem_cons_of_mem _ (List.mem_cons_self ..)) (wrong_no (by rw [parts_c, y_0 (by decide +kernel)])))
      (fm_cons (wrong_no (by rw [parts_c, y_4 (by decide +kernel)]; rfl))
      (fm_cons (wrong_by (by rw [parts_c, y_6 (by decide +kernel)]) (List.mem_cons_self ..) (rightD_no _ _ rfl))
      fm_nil)))))
    (fm_cons (rightD_no _ _ rfl)
      (fm_cons (wrong_no (by rw [parts_c, y_0 (by decide +kernel)]))
      (fm_cons (wrong_no (by rw [parts_c, y_0 (by decide +kernel)]))
      (fm_cons (rightD_no _ _ rfl)
      (fm_cons (rightD_no _ _ rfl)
      (fm_cons (rightD_no _ _ rfl)
      (fm_cons (rightD_no _ _ rfl)
      (fm_cons (rightD_no _ _ rfl)
      (fm_cons (wrong_by (by rw [parts_c, y_6 (by decide +kernel)]) (List.mem_cons_self ..) (rightD_no _ _ rfl))
      (fm_cons (wrong_by (parts_neg _) (List.mem_cons_self ..) (rightD_no _ _ rfl))
      fm_nil)))))))))))
    (fm_cons (wrong_by (by rw [parts_c, y_5 (by decide +kernel)]) (List.mem_cons_of_mem _ (List.mem_cons_self ..)) (wr_zz hz))
      (fm_cons (wrong_by (by rw [parts_c, y_5 (by decide +kernel)]) (List.mem_cons_of_mem _ (List.mem_cons_self ..)) (wrong_no (by rw [parts_e, x_3 (by decide +kernel)]; rfl)))
      fm_nil)))
theorem bad_sums_sz (s : Str) : ∀ d ∈ badS s, szD d ≤ 100 := by simp [badS, szD, szDs]
theorem bad_tests_sz (s : Str) : ∀ d ∈ badT s, szD d ≤ 100 := by simp [badT, szD, szDs]
theorem c_words : ∀ w ∈ (["same", "below", "and", "or", "not"] : List Str), w ∉ (["number", "field"] : List Str) ∧ w ∉ (["plus", "less", "times", "min", "max"] : List Str) ∧ w ∉ (["div", "rest"] : List Str) := by decide +kernel
theorem e_words : ∀ w ∈ (["number", "field", "plus", "less", "times", "min", "max", "div", "rest"] : List Str), w ≠ "not" ∧ w ∉ (["same", "below", "and", "or"] : List Str) := by decide +kernel
/-- the first word tells which sort it is -/
theorem fst_c {t : Tm} (h : t.Ok true) : fst t ∈ (["same", "below", "not", "and", "or"] : List Str) := by
  cases t with
  | num i => cases h.1
  | fld s => cases h
  | bin w a b =>
    rcases h with ⟨h, _⟩ | ⟨_, hw, _⟩ | ⟨_, hw, _⟩
    · cases h
    · simp only [List.mem_cons, List.not_mem_nil, or_false] at hw
      rcases hw with h | h <;> simp [fst, h]
    · simp only [List.mem_cons, List.not_mem_nil, or_false] at hw
      rcases hw with h | h <;> simp [fst, h]
  | cut w a n => cases h.1
  | neg a => simp [fst]
theorem fst_e {t : Tm} (h : t.Ok false) : fst t ∈ (["number", "field", "plus", "less", "times", "min", "max", "div", "rest"] : List Str) := by
  cases t with
  | num i => simp [fst]
  | fld s => simp [fst]
  | bin w a b =>
    rcases h with ⟨_, hw, _⟩ | ⟨h, _⟩ | ⟨h, _⟩
    · simp only [List.mem_cons, List.not_mem_nil, or_false] at hw
      rcases hw with h | h | h | h | h <;> simp [fst, h]
    · cases h
    · cases h
  | cut w a n =>
    have hw := h.2.1
    simp only [List.mem_cons, List.not_mem_nil, or_false] at hw
    rcases hw with h | h <;> simp [fst, h]
  | neg a => cases h.1
theorem cond_no {ns : List Str} {t : Tm} (h : t.Ok true) : rightD ns (srt "expression" t.d) = false := by
  obtain ⟨ds, hd⟩ := tm_d t
  have hf := fst_c h
  rw [hd]
  refine wrong_no ?_
  rw [parts_e, x_4 (c_words _ (by simp only [List.mem_cons, List.not_mem_nil, or_false] at hf ⊢; rcases hf with h | h | h | h | h <;> simp [h]))]
theorem expr_no {ns : List Str} {t : Tm} (h : t.Ok false) : rightD ns (srt "condition" t.d) = false := by
  obtain ⟨ds, hd⟩ := tm_d t
  rw [hd]
  refine wrong_no ?_
  rw [parts_c, y_0 (e_words _ (fst_e h))]
theorem e_not_c : ∀ w ∈ (["number", "field", "plus", "less", "times", "min", "max", "div", "rest"] : List Str), w ∉ (["same", "below", "not", "and", "or"] : List Str) := by decide +kernel
/-- the sort told by the first word -/
theorem sort_of {t : Tm} {c : Bool} (h : t.Ok c) : decide (fst t ∈ (["same", "below", "not", "and", "or"] : List Str)) = c := by
  cases c with
  | true => exact decide_eq_true (fst_c h)
  | false => exact decide_eq_false (e_not_c _ (fst_e h))
/-- a part of a condition that is an expression -/
theorem has_expr : ∀ {t : Tm}, t.Ok true → ∃ p u, Path t p u ∧ u.Ok false
  | .num i, h => by cases h.1
  | .fld s, h => by cases h
  | .bin w a b, h => by
    rcases h with ⟨h, _⟩ | ⟨_, _, ha, _⟩ | ⟨_, _, ha, _⟩
    · cases h
    · exact ⟨[1], a, .cons rfl (.nil a), ha⟩
    · obtain ⟨p, u, hp, hu⟩ := has_expr ha
      exact ⟨1 :: p, u, .cons rfl hp, hu⟩
  | .cut w a n, h => by cases h.1
  | .neg a, h => by
    obtain ⟨p, u, hp, hu⟩ := has_expr (t := a) h.2
    exact ⟨1 :: p, u, .cons rfl hp, hu⟩
end
end C
namespace C
open PySem L2 G
section
variable {P : Program} {w : World} {K : PySem.W.Frag} {mg : Str → Option Value} {base : Heap}
/-! ### helpers of the law -/
theorem path_sort {t u : Tm} {p : List Nat} {c : Bool} (r : Path t p u) (ok : t.Ok c) : ∃ c', u.Ok c' := by
  obtain ⟨c', h, _⟩ := exch_wrong (ns := []) (x := .none) r ok
  exact ⟨c', h⟩
theorem sort_eq {t : Tm} {c c' : Bool} (h : t.Ok c) (h' : t.Ok c') : c = c' := by rw [← sort_of h, ← sort_of h']
theorem wrong_at {ns : List Str} {x : PyData} {t u : Tm} {p : List Nat} {c c' : Bool} (r : Path t p u) (ok : t.Ok c) (ok' : u.Ok c') (h : rightD ns (srt (srtOf c') x) = false) : rightD ns (srt (srtOf c) (t.exch p x)) = false := by
  obtain ⟨c2, h2, _, k⟩ := exch_wrong (ns := ns) (x := x) r ok
  rw [sort_eq h2 ok'] at k
  exact k h
theorem path_e {t u : Tm} {p : List Nat} (r : Path t p u) : t.Ok false → u.Ok false := by
  induction r with
  | nil t => exact id
  | cons h r ih =>
    rename_i t u v n p
    intro ok
    refine ih ?_
    cases t with
    | num i => simp [Tm.kid] at h
    | fld s => simp [Tm.kid] at h
    | bin w a b =>
      have hh : a.Ok false ∧ b.Ok false := by
        rcases ok with ⟨_, _, ha, hb⟩ | ⟨z, _⟩ | ⟨z, _⟩
        · exact ⟨ha, hb⟩
        · cases z
        · cases z
      match n, h with
      | 1, h => cases h; exact hh.1
      | 2, h => cases h; exact hh.2
      | 0, h => simp [Tm.kid] at h
      | n + 3, h => simp [Tm.kid] at h
    | cut w a k =>
      match n, h with
      | 1, h => cases h; exact ok.2.2.2.2
      | 0, h => simp [Tm.kid] at h
      | n + 2, h => simp [Tm.kid] at h
    | neg a => cases ok.1
structure LS (K : PySem.W.Frag) (d l : Addr) (ns : List Str) (t1 t2 : Tm) (v1 v2 : V) (p6 L : Addr) (n : Nat) (B H : Hp) : Prop where
  xs : ∃ xs, Mu B H L xs ∧ (∀ x ∈ xs, PairOk K B x) ∧ xs.length ≤ n
  e : Ex B H
  D : Deal B H d l
  m6 : Mu B H p6 (ns.map V.str)
  d1 : Dp K B v1 t1.d
  d2 : Dp K B v2 t2.d
  o : L ≠ d ∧ L ≠ l ∧ p6 ≠ d ∧ p6 ≠ l ∧ p6 ≠ L
section
variable {d l : Addr} {ns : List Str} {t1 t2 : Tm} {v1 v2 : V} {p6 L : Addr} {n : Nat} {B H B' H' : Hp}
theorem LS.up0 (h : LS K d l ns t1 t2 v1 v2 p6 L n B H) (m : Nx [] B H B' H') : LS K d l ns t1 t2 v1 v2 p6 L n B' H' := by
  obtain ⟨⟨xs, a, b, c⟩, e, D, m6, d1, d2, o⟩ := h
  exact ⟨⟨xs, a.up m, fun x hx => (b x hx).up m.b, c⟩, m.h, D.up m, m6.up m, Dp.up m.b d1, Dp.up m.b d2, o⟩
theorem LS.upD (h : LS K d l ns t1 t2 v1 v2 p6 L n B H) (m : Nx [d, l] B H B' H') (D' : Deal B' H' d l) : LS K d l ns t1 t2 v1 v2 p6 L n B' H' := by
  obtain ⟨⟨xs, a, b, c⟩, e, D, m6, d1, d2, o⟩ := h
  exact ⟨⟨xs, a.up m (by simp [o.1, o.2.1]), fun x hx => (b x hx).up m.b, c⟩, m.h, D', m6.up m (by simp [o.2.2.1, o.2.2.2.1]), Dp.up m.b d1, Dp.up m.b d2, o⟩
theorem LS.add {v : V} {Q : VK} (h : LS K d l ns t1 t2 v1 v2 p6 L n B H) (hn : n < 50000) (hv : PairOk K B v) (q : ∀ H', Nx [L] B H B H' → LS K d l ns t1 t2 v1 v2 p6 L (n + 1) B H' → Q .non H') : rAppend (.ref L) [v] H Q := by
  obtain ⟨⟨xs, a, b, c⟩, e, D, m6, d1, d2, o⟩ := h
  refine sx_append a e (by omega) fun H' n' m' => q H' n' ⟨⟨_, m', fun x hx => ?_, by simp; omega⟩, n'.h, D.up n' (by simp [o.1.symm, o.2.1.symm]), m6.up n' (by simp [o.2.2.2.2]), d1, d2, o⟩
  rcases List.mem_append.mp hx with z | z
  · exact b x z
  · rw [List.mem_singleton] at z
    rw [z]
    exact hv
theorem LS.cat {b : Addr} {ys : List V} {Q : VK} (h : LS K d l ns t1 t2 v1 v2 p6 L n B H) (hb : H b = some (.lst ys)) (hn : n + ys.length < 50000) (hv : ∀ y ∈ ys, PairOk K B y) (q : ∀ L' H', Nx [] B H B H' → LS K d l ns t1 t2 v1 v2 p6 L' (n + ys.length) B H' → Q (.ref L') H') : rCat (.ref L) (.ref b) H Q := by
  obtain ⟨⟨xs, a, bb, c⟩, e, D, m6, d1, d2, o⟩ := h
  refine sx_cat e a.h hb (by omega) fun L' H' hL' n' m' => q L' H' n' ⟨⟨_, m', fun x hx => ?_, by simp; omega⟩, n'.h, D.up n', m6.up n', d1, d2, (D.off hL').1, (D.off hL').2, o.2.2.1, o.2.2.2.1, m6.ne' hL'⟩
  rcases List.mem_append.mp hx with z | z
  · exact bb x z
  · exact hv x z
theorem LS.tup {Q : VK} (h : LS K d l ns t1 t2 v1 v2 p6 L n B H) (q : ∀ p B' H', Nx [] B H B' H' → SqT K B' p (ns.map V.str) → LS K d l ns t1 t2 v1 v2 p6 L n B' H' → Q (.ref p) H') : rTupF K [.ref p6] H Q := by
  refine ⟨p6, _, rfl, h.m6.sq, fun p o hp to => ?_⟩
  have n20 : Nx [] B H (upd B p (.frz o (.tup (ns.map V.str)))) (upd H p (.frz o (.tup (ns.map V.str)))) := Nx.new h.e hp
  exact q p _ _ n20 (.inl (.inr ⟨o, upd_same⟩)) (h.up0 n20)
theorem LS.ask {Q : VK} {E : XK} {s : Str} {b : Bool} {p : Addr} {x : V} {dx : PyData} (h : LS K d l ns t1 t2 v1 v2 p6 L n B H) (hp : SqT K B p (ns.map V.str)) (hx : Dp K B x dx) (hz : szD dx ≤ 30000) (hr : rightD ns (srt s dx) = b) (q : ∀ B' H', Nx [] B H B' H' → LS K d l ns t1 t2 v1 v2 p6 L n B' H' → Q (.bl b) H') : spIs K s [.ref p, x] H Q E :=
  ⟨B, p, ns, x, dx, rfl, h.e, hp, hx, hz, fun B' H' n' => by rw [hr]; exact q B' H' n' (h.up0 n')⟩
/-- a pair of answers, laid behind the others -/
theorem LS.pair {Q : VK} {b : Bool} (h : LS K d l ns t1 t2 v1 v2 p6 L n B H) (q : ∀ p B' H', H p = none → Nx [] B H B' H' → LS K d l ns t1 t2 v1 v2 p6 L n B' H' → PairOk K B' (.ref p) → Q (.ref p) H') : rNewT [.bl b, .bl b] H Q :=
  sx_newT (K := K) h.e (.cons (.bl b) (.cons (.bl b) .nil)) (by simp) fun p B' H' hp n' d' => q p B' H' hp n' (h.up0 n') (pair_b d' rfl)
end
theorem sx_ninLs {K : PySem.W.Frag} {H : Hp} {Q : VK} {p : Addr} {z : Str} (ss : List Str) (h : SqL K H p (ss.map V.str)) (q : Q (.bl (!decide (z ∈ ss))) H) : rIn K true (.str z) (.ref p) H Q :=
  ⟨p, _, rfl, .inl h, rfl, flat_strs ss, by simp only [if_true, inV_str]; exact q⟩
/-- places picked by what stands there -/
theorem sx_spots {K : PySem.W.Frag} {B H : Hp} {Q : VK} {σ : L2.St} {vs : List Nat} {tt : TT} {te : TE} {i j : Nat} (c : Bool) {a : Addr} {xs : List V} {fs : List (List Nat × Tm)} {t : Tm} {c0 : Bool} (e : Ex B H) (m : Mu B H a xs) (hd : DpAll K B xs (fs.map fdI)) (hl : fs.length ≤ 10000) (cov : Cov t fs []) (ok : t.Ok c0)
    (hw : ∀ v1 v2, wipe (((wipe σ vs).set i (some v1)).set j (some v2)) vs = wipe σ vs)
    (ht : ∀ v1 v2 (u : Tm) (cu : Bool), u.Ok cu → ∀ B' H' (R : Bool → Hp → Prop), Ex B' H' → Dp K B' v2 u.d → (∀ H'', Nx [] B' H' B' H'' → R (decide (cu = c)) H'') → tt (((wipe σ vs).set i (some v1)).set j (some v2)) H' R)
    (he : ∀ v1 v2 H' (R : VK), R v1 H' → te (((wipe σ vs).set i (some v1)).set j (some v2)) H' R)
    (q : ∀ p H' (ys : List V) (gs : List (List Nat)), H p = none → Nx [] B H B H' → Mu B H' p ys → DpAll K B ys (gs.map wd) → (∀ w ∈ gs, ∃ u, Path t w u ∧ u.Ok c) → (∀ f ∈ fs, f.2.Ok c → f.1 ∈ gs) → gs.length ≤ fs.length → Q (.ref p) H') : rLcL K (gTup K 2 (gCons (gName i) (gCons (gName j) gNil))) tt te vs σ (.ref a) H Q := by
  have lx := Dps.len hd
  rw [List.length_map] at lx
  refine sx_lcL_by m.sq (fun C n H' => H C = none ∧ ∃ (ys : List V) (gs : List (List Nat)), Nx [] B H B H' ∧ Mu B H' C ys ∧ DpAll K B ys (gs.map wd) ∧ (∀ w ∈ gs, ∃ u, Path t w u ∧ u.Ok c) ∧ (∀ f ∈ fs.take n, f.2.Ok c → f.1 ∈ gs) ∧ gs.length ≤ n) (fun C hC => ⟨hC, [], [], Nx.own e hC, Mu.new e hC, .nil, by simp, by simp, Nat.le_refl _⟩) (fun C n H' _ p => ?_) (fun C n x H1 hi p => ?_) (fun C H' p => ?_)
  · obtain ⟨_, ys, gs, n', _⟩ := p
    exact (m.up n').sq
  · obtain ⟨hC, ys, gs, n1, m1, d1, g1, k1, l1⟩ := p
    obtain ⟨dv, hdv, hdx⟩ := Dps.got hd hi
    have hn : n < fs.length := by
      have := (List.getElem?_eq_some_iff.mp hi).1
      omega
    rw [List.getElem?_map, List.getElem?_eq_getElem hn] at hdv
    cases hdv
    obtain ⟨f, hf⟩ : ∃ f, f = fs[n] := ⟨_, rfl⟩
    rw [← hf] at hdx
    have hfm : f ∈ fs := by rw [hf]; exact List.getElem_mem hn
    have hp := cov.f f hfm
    obtain ⟨cu, hcu⟩ := path_sort hp ok
    have htk : fs.take (n + 1) = fs.take n ++ [f] := by rw [List.take_add_one, List.getElem?_eq_getElem hn, ← hf]; rfl
    refine sx_gtup2 hdx n1.h fun w1 w2 hw1 hw2 => ⟨hw w1 w2, ?_⟩
    refine ht w1 w2 f.2 cu hcu B H1 _ n1.h hw2 fun H2 n2 => ?_
    have m2 := m1.up n2
    have n12 := n1.tr n2
    by_cases hc : cu = c
    · subst hc
      refine ifT (decide_eq_true rfl) (he w1 w2 H2 _ ?_)
      have ly := Dps.len d1
      rw [List.length_map] at ly
      refine sx_lcEnd (P := fun H' => H C = none ∧ ∃ (ys : List V) (gs : List (List Nat)), Nx [] B H B H' ∧ Mu B H' C ys ∧ DpAll K B ys (gs.map wd) ∧ (∀ w ∈ gs, ∃ u, Path t w u ∧ u.Ok cu) ∧ (∀ f ∈ fs.take (n + 1), f.2.Ok cu → f.1 ∈ gs) ∧ gs.length ≤ n + 1) m2 n2.h (by omega) fun H3 n3 m3 => ⟨hC, ys ++ [w1], gs ++ [f.1], n12.loc n3 (by simp [hC]), m3, ?_, ?_, ?_, by simp; omega⟩
      · rw [List.map_append]
        exact Dps.app d1 (.cons hw1 .nil)
      · intro w hw'
        rcases List.mem_append.mp hw' with z | z
        · exact g1 w z
        · rw [List.mem_singleton] at z
          rw [z]
          exact ⟨f.2, hp, hcu⟩
      · intro f' hf' ok'
        rw [htk] at hf'
        rcases List.mem_append.mp hf' with z | z
        · exact List.mem_append_left _ (k1 f' z ok')
        · rw [List.mem_singleton] at z
          rw [z]
          simp
    · refine ifF (decide_eq_false hc) ⟨hC, ys, gs, n12, m2, d1, g1, ?_, by omega⟩
      intro f' hf' ok'
      rw [htk] at hf'
      rcases List.mem_append.mp hf' with z | z
      · exact k1 f' z ok'
      · rw [List.mem_singleton] at z
        rw [z] at ok'
        exact absurd (sort_eq hcu ok') hc
  · obtain ⟨hC, ys, gs, n1, m1, d1, g1, k1, l1⟩ := p
    rw [lx, List.take_length] at k1
    rw [lx] at l1
    exact q C H' ys gs hC n1 m1 d1 g1 k1 l1
end
end C
namespace C
open PySem L2 G
section
variable {P : Program} {w : World} {K : PySem.W.Frag} {mg : Str → Option Value} {base : Heap}
/-! ### the law -/
def n3 : List Str := ["f", "gl", "pm"]
theorem DrawnC.right {ns : List Str} {t : Tm} (h : DrawnC ns t) : rightD ns (srt "condition" t.d) = true := by
  have := tm_right t true h.ok h.fl
  rwa [if_pos rfl] at this
def InL (K : PySem.W.Frag) (d l : Addr) (n : Nat) (B H : Hp) (L : Addr) : Prop := ∃ xs : List V, Ex B H ∧ Deal B H d l ∧ Mu B H L xs ∧ (∀ x ∈ xs, PairOk K B x) ∧ xs.length ≤ n ∧ L ≠ d ∧ L ≠ l
theorem LS.out {K : PySem.W.Frag} {d l : Addr} {ns : List Str} {t1 t2 : Tm} {v1 v2 : V} {p6 L : Addr} {n m : Nat} {B H : Hp} (h : LS K d l ns t1 t2 v1 v2 p6 L n B H) (hn : n ≤ m) : InL K d l m B H L := by
  obtain ⟨⟨xs, a, b, c⟩, e, D, m6, d1, d2, o⟩ := h
  exact ⟨xs, e, D, a, b, by omega, o.1, o.2.1⟩
theorem tup_imp {K : PySem.W.Frag} {xs : List V} {H : Hp} {Q Q' : VK} (h : rTupF K xs H Q) (k : ∀ x H1, Q x H1 → Q' x H1) : rTupF K xs H Q' := by
  obtain ⟨p, ys, e, m, q⟩ := h
  exact ⟨p, ys, e, m, fun l o hl to => k _ _ (q l o hl to)⟩
theorem ok_law (T : Txt w K mg) : Has P w K mg base "law" s_law 9 ["script"] (spLaw K) := by
  refine has_mk T.d_law sc_law (fun _ _ _ _ _ _ us hl => match us, hl with | [_], _ => rfl) (fun vs H Q E h => ?_) (fun f cdv A outer s' H vs Q E hr h => ?_)
  · obtain ⟨_, _, rfl, _⟩ := h
    rfl
  · obtain ⟨a, is, rfl, hS, hz, k⟩ := h
    refine ⟨_, (pss_cons (ps_set (i := 1) sc_law.nd rfl (.inl rfl) (pe_callH (ok_law_deal T) hr (by rfl) (pa_cons (pv 0) (pa_cons pe_int pa_nil))))
      (pss_cons (ps_set (i := 2) sc_law.nd rfl (.inl rfl) (pe_lst pa_nil))
      (G.pss_cut (ps_for PassesOwn.never rfl (pi_range1 (by rfl) T.b_range (pa_cons pe_int pa_nil)) (pg_name (i := 3) sc_law.nd rfl (.inl rfl))
      (pss_cons (ps_set (i := 4) sc_law.nd rfl (.inl rfl) (pe_slice sl_list (pe_lst (pa_cons pe_str (pa_cons pe_str (pa_cons pe_str pa_nil)))) po_none (po_some (pe_op op_add pe_int (pe_callH (ok_law_any T) hr (by rfl) (pa_cons (pv 1) (pa_cons pe_int pa_nil)))))))
      (pss_cons (ps_par (i := 5) (j := 6) (by rfl) sc_law.nd rfl rfl (by decide) rfl rfl (pa_cons (pe_callH (ok_law_sum_of T) hr (by rfl) (pa_cons (pv 1) (pa_cons (pv 4) (pa_cons (pe_op op_add pe_int (pe_callH (ok_law_any T) hr (by rfl) (pa_cons (pv 1) (pa_cons pe_int pa_nil)))) pa_nil)))) (pa_cons (pe_callH (ok_law_test_of T) hr (by rfl) (pa_cons (pv 1) (pa_cons (pv 4) (pa_cons (pe_op op_add pe_int (pe_callH (ok_law_any T) hr (by rfl) (pa_cons (pv 1) (pa_cons pe_int pa_nil)))) pa_nil)))) pa_nil)) (by rfl))
      (pss_cons (ps_set (i := 2) sc_law.nd rfl (.inl rfl) (pe_op op_cat (pv 2) (pe_lst (pa_cons (pe_tup (pa_cons (pe_ifExp (pt_cmpR op_gt (pv 3) pe_int (nomark _)) (pe_callH (ok_is_expression T) hr (by rfl) (pa_cons (pe_callTy cl_tupleF (by rfl) T.b_tuple (by decide +kernel) (pa_cons (pv 4) pa_nil)) (pa_cons (pv 5) pa_nil))) (pe_callK0H (ok_is_expression T) (kb_swap (fun _ _ _ _ _ _ _ _ => rfl)) hr (by rfl) (pk_cons (pv 5) (pk_cons (pe_callTy cl_tupleF (by rfl) T.b_tuple (by decide +kernel) (pa_cons (pv 4) pa_nil)) pk_nil)))) (pa_cons pe_bl pa_nil))) pa_nil))))
      (pss_cons (ps_set (i := 2) sc_law.nd rfl (.inl rfl) (pe_op op_cat (pv 2) (pe_lst (pa_cons (pe_tup (pa_cons (pe_ifExp (pt_cmpR op_gt (pv 3) pe_int (nomark _)) (pe_callH (ok_is_condition T) hr (by rfl) (pa_cons (pe_callTy cl_tupleF (by rfl) T.b_tuple (by decide +kernel) (pa_cons (pv 4) pa_nil)) (pa_cons (pv 6) pa_nil))) (pe_callK0H (ok_is_condition T) (kb_swap (fun _ _ _ _ _ _ _ _ => rfl)) hr (by rfl) (pk_cons (pv 6) (pk_cons (pe_callTy cl_tupleF (by rfl) T.b_tuple (by decide +kernel) (pa_cons (pv 4) pa_nil)) pk_nil)))) (pa_cons pe_bl pa_nil))) pa_nil))))
      (pss_cons (ps_set (i := 2) sc_law.nd rfl (.inl rfl) (pe_op op_cat (pv 2) (pe_lst (pa_cons (pe_tup (pa_cons (pe_callH (ok_is_expression T) hr (by rfl) (pa_cons (pe_callTy cl_tupleF (by rfl) T.b_tuple (by decide +kernel) (pa_cons (pv 4) pa_nil)) (pa_cons (pv 6) pa_nil))) (pa_cons pe_bl pa_nil))) (pa_cons (pe_tup (pa_cons (pe_callH (ok_is_condition T) hr (by rfl) (pa_cons (pe_callTy cl_tupleF (by rfl) T.b_tuple (by decide +kernel) (pa_cons (pv 4) pa_nil)) (pa_cons (pv 5) pa_nil))) (pa_cons pe_bl pa_nil))) pa_nil)))))
      (pss_cons (ps_for PassesOwn.never rfl (pi_list (pe_callH (ok_law_bad_sums T) hr (by rfl) (pa_cons (pv 4) pa_nil))) (pg_name (i := 7) sc_law.nd rfl (.inl rfl))
      (pss_cons (ps_asg (pe_callH (ok_law_of T) hr (by rfl) (pa_cons (pv 1) (pa_cons (pe_lc (own := [("place", 10)]) (g := (gName 10)) rfl sc_law.nd (pi_list (pe_callH (ok_law_places T) hr (by rfl) (pa_cons (pv 5) pa_nil))) (blkOk_by (own := [("place", 10)]) (N := ["script", "deal", "pairs", "turn", "names", "thing", "test", "bad", "way", "part", "place", "spots", "one"]) (sc := defScope s_law) (by decide +kernel)) (fun _ _ _ _ _ => pg_name (i := 10) sc_law.nd rfl (.inl rfl)) (fun _ _ _ _ _ => pts_nil) (fun _ _ _ _ _ => (pv 10))) pa_nil))) (pg_tup (by rfl) (pgs_cons (pg_name (i := 8) sc_law.nd rfl (.inl rfl)) (pgs_cons (pg_name (i := 9) sc_law.nd rfl (.inl rfl)) pgs_nil))))
      (pss_cons (ps_expr (pe_bm PySem.F.plainAttrs_list PySem.F.slot_list_append PySem.F.type_list_append mt_append (pv 2) (pa_cons (pe_tup (pa_cons (pe_callH (ok_is_expression T) hr (by rfl) (pa_cons (pe_callTy cl_tupleF (by rfl) T.b_tuple (by decide +kernel) (pa_cons (pv 4) pa_nil)) (pa_cons (pe_callH (ok_law_exchanged T) hr (by rfl) (pa_cons (pv 5) (pa_cons (pv 8) (pa_cons (pv 7) pa_nil)))) pa_nil))) (pa_cons pe_bl pa_nil))) pa_nil)))
      (pss_cons (ps_setLc (i := 11) (own := [("place", 10), ("one", 12)]) (g := (gTup K 2 (gCons (gName 10) (gCons (gName 12) gNil)))) rfl sc_law.nd rfl rfl (sw_true rfl rfl rfl (by decide +kernel)) (pi_list (pe_callH (ok_law_places T) hr (by rfl) (pa_cons (pv 6) pa_nil))) (blkOk_by (own := [("place", 10), ("one", 12)]) (N := ["script", "deal", "pairs", "turn", "names", "thing", "test", "bad", "way", "part", "place", "spots", "one"]) (sc := defScope s_law) (by decide +kernel)) (fun _ _ _ _ _ => (pg_tup (by rfl) (pgs_cons (pg_name (i := 10) sc_law.nd rfl (.inl rfl)) (pgs_cons (pg_name (i := 12) sc_law.nd rfl (.inl rfl)) pgs_nil)))) (fun _ _ _ _ _ => (pts_one (pt_cmpR (G.k_nin (K := K) rfl) (pe_ix (G.k_ixT (K := K) rfl) (pv 12) pe_int (fun _ _ => rfl)) (pe_lst (pa_cons pe_str (pa_cons pe_str (pa_cons pe_str (pa_cons pe_str (pa_cons pe_str pa_nil)))))) (by rfl)))) (fun _ _ _ _ _ => (pv 10)))
      (pss_one (ps_expr (pe_bm PySem.F.plainAttrs_list PySem.F.slot_list_append PySem.F.type_list_append mt_append (pv 2) (pa_cons (pe_tup (pa_cons (pe_callH (ok_is_condition T) hr (by rfl) (pa_cons (pe_callTy cl_tupleF (by rfl) T.b_tuple (by decide +kernel) (pa_cons (pv 4) pa_nil)) (pa_cons (pe_callH (ok_law_exchanged T) hr (by rfl) (pa_cons (pv 6) (pa_cons (pe_callH (ok_law_of T) hr (by rfl) (pa_cons (pv 1) (pa_cons (pv 11) pa_nil))) (pa_cons (pv 7) pa_nil)))) pa_nil))) (pa_cons pe_bl pa_nil))) pa_nil))))))))
      (pss_cons (ps_for PassesOwn.never rfl (pi_list (pe_callH (ok_law_bad_tests T) hr (by rfl) (pa_cons (pv 4) pa_nil))) (pg_name (i := 7) sc_law.nd rfl (.inl rfl))
      (pss_cons (ps_setLc (i := 11) (own := [("place", 10), ("one", 12)]) (g := (gTup K 2 (gCons (gName 10) (gCons (gName 12) gNil)))) rfl sc_law.nd rfl rfl (sw_true rfl rfl rfl (by decide +kernel)) (pi_list (pe_callH (ok_law_places T) hr (by rfl) (pa_cons (pv 6) pa_nil))) (blkOk_by (own := [("place", 10), ("one", 12)]) (N := ["script", "deal", "pairs", "turn", "names", "thing", "test", "bad", "way", "part", "place", "spots", "one"]) (sc := defScope s_law) (by decide +kernel)) (fun _ _ _ _ _ => (pg_tup (by rfl) (pgs_cons (pg_name (i := 10) sc_law.nd rfl (.inl rfl)) (pgs_cons (pg_name (i := 12) sc_law.nd rfl (.inl rfl)) pgs_nil)))) (fun _ _ _ _ _ => (pts_one (pt_cmpR (G.k_in (K := K) rfl) (pe_ix (G.k_ixT (K := K) rfl) (pv 12) pe_int (fun _ _ => rfl)) (pe_lst (pa_cons pe_str (pa_cons pe_str (pa_cons pe_str (pa_cons pe_str (pa_cons pe_str pa_nil)))))) (by rfl)))) (fun _ _ _ _ _ => (pv 10)))
      (pss_cons (ps_expr (pe_bm PySem.F.plainAttrs_list PySem.F.slot_list_append PySem.F.type_list_append mt_append (pv 2) (pa_cons (pe_tup (pa_cons (pe_callH (ok_is_condition T) hr (by rfl) (pa_cons (pe_callTy cl_tupleF (by rfl) T.b_tuple (by decide +kernel) (pa_cons (pv 4) pa_nil)) (pa_cons (pe_callH (ok_law_exchanged T) hr (by rfl) (pa_cons (pv 6) (pa_cons (pe_callH (ok_law_of T) hr (by rfl) (pa_cons (pv 1) (pa_cons (pv 11) pa_nil))) (pa_cons (pv 7) pa_nil)))) pa_nil))) (pa_cons pe_bl pa_nil))) pa_nil)))
      (pss_one (ps_expr (pe_bm PySem.F.plainAttrs_list PySem.F.slot_list_append PySem.F.type_list_append mt_append (pv 2) (pa_cons (pe_tup (pa_cons (pe_callH (ok_is_condition T) hr (by rfl) (pa_cons (pe_callTy cl_tupleF (by rfl) T.b_tuple (by decide +kernel) (pa_cons (pv 4) pa_nil)) (pa_cons (pv 7) pa_nil))) (pa_cons pe_bl pa_nil))) pa_nil)))))))
      (pss_one (ps_for PassesOwn.never rfl (pi_list (pe_callH (ok_law_places T) hr (by rfl) (pa_cons (pv 5) pa_nil))) ((pg_tup (by rfl) (pgs_cons (pg_name (i := 8) sc_law.nd rfl (.inl rfl)) (pgs_cons (pg_name (i := 9) sc_law.nd rfl (.inl rfl)) pgs_nil))))
      (pss_one (ps_expr (pe_bm PySem.F.plainAttrs_list PySem.F.slot_list_append PySem.F.type_list_append mt_append (pv 2) (pa_cons (pe_tup (pa_cons (pe_callH (ok_is_expression T) hr (by rfl) (pa_cons (pe_callTy cl_tupleF (by rfl) T.b_tuple (by decide +kernel) (pa_cons (pv 4) pa_nil)) (pa_cons (pv 9) pa_nil))) (pa_cons pe_bl pa_nil))) pa_nil))))))))))))))
      (pss_cons (ps_set (i := 2) sc_law.nd rfl (.inl rfl) (pe_op op_cat (pv 2) (pe_lst (pa_cons (pe_tup (pa_cons (pe_callH (ok_is_expression T) hr (by rfl) (pa_cons (pe_tup pa_nil) (pa_cons (pe_tup (pa_cons pe_str (pa_cons (pe_op op_sub pe_int pe_int) pa_nil))) pa_nil))) (pa_cons pe_bl pa_nil))) (pa_cons (pe_tup (pa_cons (pe_callH (ok_is_expression T) hr (by rfl) (pa_cons (pe_tup pa_nil) (pa_cons (pe_tup (pa_cons pe_str (pa_cons pe_str pa_nil))) pa_nil))) (pa_cons pe_bl pa_nil))) pa_nil)))))
      (pss_one (ps_ret (pe_callH (ok_law_all T) hr (by rfl) (pa_cons (pe_op op_cat (pv 2) (pe_lst (pa_cons (pe_tup (pa_cons (pe_callH (ok_is_condition T) hr (by rfl) (pa_cons (pe_tup pa_nil) (pa_cons (pe_tup (pa_cons pe_str (pa_cons (pe_tup (pa_cons pe_str (pa_cons pe_int pa_nil))) (pa_cons (pe_tup (pa_cons pe_str (pa_cons pe_int pa_nil))) pa_nil)))) pa_nil))) (pa_cons pe_bl pa_nil))) pa_nil))) pa_nil)))))))), ?_⟩
    walk_at "go"
    refine ⟨fun _ => none, a, is, 2002, rfl, (fun _ _ h => by cases h), hS, hz, by decide, by decide, fun B1 H1 d l n1 D1 => ?_⟩
    walk_at "sx"
    refine sx_newM n1.h (by simp) fun L H2 hL n2 m2 => ?_
    have D2 := D1.up n2
    have off := D1.off hL
    walk_at "sx"
    walk_at "st"
    refine G.sx_cut (fun σ H' => ∃ (B' : Hp) (L : Addr) (y3 y4 y5 y6 y7 y8 y9 y11 : Option V), σ = [some (.ref a), some (.ref d), some (.ref L), y3, y4, y5, y6, y7, y8, y9, none, y11, none] ∧ InL K d l 1200 B' H' L) ?_ ?_
    · walk_at "sx"
      refine sx_forR_by (n := 6) (by omega) (fun i σ H' => ∃ (B' : Hp) (L : Addr) (y3 y4 y5 y6 y7 y8 y9 y11 : Option V), σ = [some (.ref a), some (.ref d), some (.ref L), y3, y4, y5, y6, y7, y8, y9, none, y11, none] ∧ InL K d l (200 * i) B' H' L) ⟨B1, L, _, _, _, _, _, _, _, _, rfl, [], n2.h, D2, m2, by simp, by simp, off.1, off.2⟩ (fun i σ H3 hi p => ?_) (fun σ H3 p => p)
      clear off D2 m2 hL n2
      obtain ⟨B3, L, y3, y4, y5, y6, y7, y8, y9, y11, rfl, xs, e3, D3, m3, p3, l3, oL1, oL2⟩ := p
      refine sx_gname ?_
      walk_at "st"
      walk_at "sx"
      refine sx_newM (B := B3) e3 (by simp) fun p4 H4 hp4 n4 m4 => ?_
      have D4 := D3.up n4
      have m4L := m3.up n4
      walk_at "sx"
      refine ⟨B3, d, l, 3, rfl, n4.h, D4, by decide, by decide, fun B5 H5 r n5 D5 r0 r1 => ?_⟩
      have off4 := D3.off hp4
      have m5 := m4.up n5 (by simp [off4.1, off4.2])
      have m5L := m4L.up n5 (by simp [oL1, oL2])
      obtain ⟨j, rfl⟩ : ∃ j : Nat, r = (j : Int) := ⟨r.toNat, by omega⟩
      walk_at "sx"
      refine sx_slL n5.h m5.sq fun p6 H6 hp6 n6 m6 => ?_
      rw [show (1 : Int) + (j : Int) = ((j + 1 : Nat) : Int) by omega, cut_to] at m6
      rw [show ([V.str "f", V.str "gl", V.str "pm"] : List V) = C.n3.map V.str from rfl, ← List.map_take] at m6
      obtain ⟨ns, hns⟩ : ∃ ns, ns = C.n3.take (j + 1) := ⟨_, rfl⟩
      rw [← hns] at m6
      have nsl : 0 < ns.length ∧ ns.length < 100 := by
        rw [hns, List.length_take]
        have : C.n3.length = 3 := rfl
        omega
      have nzz : ("zz" : Str) ∉ ns := by
        rw [hns]
        exact fun h => absurd (List.mem_of_mem_take h) (by decide +kernel)
      clear hns
      have D6 := D5.up n6
      have off6 := D5.off hp6
      have m6L := m5L.up n6
      have oL6 : p6 ≠ L := m5L.ne hp6
      walk_at "sx"
      walk_at "st"
      walk_at "sx"
      refine ⟨B5, d, l, 4, rfl, n6.h, D6, by decide, by decide, fun B7 H7 r7 n7 D7 r70 r71 => ?_⟩
      have m7 := m6.up n7 (by simp [off6.1, off6.2])
      have m7L := m6L.up n7 (by simp [oL1, oL2])
      obtain ⟨j7, rfl⟩ : ∃ j : Nat, r7 = (j : Int) := ⟨r7.toNat, by omega⟩
      walk_at "sx"
      rw [show (1 : Int) + (j7 : Int) = ((j7 + 1 : Nat) : Int) by omega]
      refine ⟨B7, d, l, p6, ns, j7 + 1, rfl, n7.h, D7, m7.sq, off6.1, off6.2, nsl.1, nsl.2, by omega, fun B8 H8 v1 t1 n8 D8 dt1 dr1 lv1 sz1 => ?_⟩
      have m8 := m7.up n8 (by simp [off6.1, off6.2])
      have m8L := m7L.up n8 (by simp [oL1, oL2])
      walk_at "sx"
      refine ⟨B8, d, l, 3, rfl, n8.h, D8, by decide, by decide, fun B9 H9 r9 n9 D9 r90 r91 => ?_⟩
      have m9 := m8.up n9 (by simp [off6.1, off6.2])
      have m9L := m8L.up n9 (by simp [oL1, oL2])
      obtain ⟨j9, rfl⟩ : ∃ j : Nat, r9 = (j : Int) := ⟨r9.toNat, by omega⟩
      walk_at "sx"
      rw [show (1 : Int) + (j9 : Int) = ((j9 + 1 : Nat) : Int) by omega]
      refine ⟨B9, d, l, p6, ns, j9 + 1, rfl, n9.h, D9, m9.sq, off6.1, off6.2, nsl.1, nsl.2, by omega, fun B10 H10 v2 t2 n10 D10 dt2 dr2 lv2 sz2 => ?_⟩
      have e310 : Ex B3 B10 := n4.b.trans (n5.b.trans (n6.b.trans (n7.b.trans (n8.b.trans (n9.b.trans n10.b)))))
      have ls : LS K d l ns t1 t2 v1 v2 p6 L (200 * i) B10 H10 := ⟨⟨xs, m9L.up n10 (by simp [oL1, oL2]), fun x hx => (p3 x hx).up e310, l3⟩, n10.h, D10, m9.up n10 (by simp [off6.1, off6.2]), Dp.up (n9.b.trans n10.b) dt1, dt2, oL1, oL2, off6.1, off6.2, oL6⟩
      clear e310 dt1 dt2 m9L m9 D10 n10 D9 n9 m8L m8 D8 n8 m7L m7 D7 n7 oL6 m6L off6 D6 m6 n6 hp6 m5L m5 off4 D5 n5 m4L D4 m4 n4 hp4 oL1 oL2 l3 p3 m3 D3 e3
      have s1 := t1.szD_le
      have s2 := t2.szD_le
      have q1 : t1.size ≤ 30 := by omega
      have q2 : t2.size ≤ 100 := by omega
      walk_at "sx"
      walk_at "st"
      walk_at "sx"
      refine ifB (C := rTupF K [.ref p6] H10 fun x H1 => spIs K "expression" [x, v1] H1 ?Q E0) ?h (fun h => ?a) (fun h => ?b)
      case a =>
        walk_at "sx"
        refine tup_imp h fun x H1 h1 => ?_
        walk_at "sx"
        exact h1
      case b =>
        walk_at "sx"
        refine tup_imp h fun x H1 h1 => ?_
        walk_at "sx"
        exact h1
      refine ls.tup fun p1 B1 H1 n1 sq1 ls => ?_
      walk_at "sx"
      refine ls.ask sq1 ls.d1 (by omega) dr1.right fun B2 H2 n2 ls => ?_
      walk_at "sx"
      refine ls.pair fun p3 B3 H3 _ n3 ls k3 => ?_
      walk_at "sx"
      refine sx_newM ls.e (by simp) fun p4 H4 hp4 n4 m4 => ?_
      walk_at "sx"
      refine (ls.up0 n4).cat m4.h (by simp; omega) (by simpa using k3) fun L5 H5 n5 ls => ?_
      walk_at "sx"
      walk_at "st"
      walk_at "sx"
      refine ifB (C := rTupF K [.ref p6] H5 fun x H1 => spIs K "condition" [x, v2] H1 ?Q2 E0) ?h2 (fun h => ?a2) (fun h => ?b2)
      case a2 =>
        walk_at "sx"
        refine tup_imp h fun x H1 h1 => ?_
        walk_at "sx"
        exact h1
      case b2 =>
        walk_at "sx"
        refine tup_imp h fun x H1 h1 => ?_
        walk_at "sx"
        exact h1
      refine ls.tup fun p6' B6 H6 n6 sq6 ls => ?_
      walk_at "sx"
      refine ls.ask sq6 ls.d2 (by omega) dr2.right fun B7 H7 n7 ls => ?_
      walk_at "sx"
      refine ls.pair fun p8 B8 H8 _ n8 ls k8 => ?_
      walk_at "sx"
      refine sx_newM ls.e (by simp) fun p9 H9 hp9 n9 m9 => ?_
      walk_at "sx"
      refine (ls.up0 n9).cat m9.h (by simp; omega) (by simpa using k8) fun L10 H10 n10 ls => ?_
      walk_at "sx"
      walk_at "st"
      walk_at "sx"
      refine ls.tup fun p11 B11 H11 n11 sq11 ls => ?_
      walk_at "sx"
      refine ls.ask sq11 ls.d2 (by omega) (cond_no dr2.ok) fun B12 H12 n12 ls => ?_
      walk_at "sx"
      refine ls.pair fun p13 B13 H13 _ n13 ls k13 => ?_
      walk_at "sx"
      refine ls.tup fun p14 B14 H14 n14 sq14 ls => ?_
      walk_at "sx"
      refine ls.ask sq14 ls.d1 (by omega) (expr_no dr1.ok) fun B15 H15 n15 ls => ?_
      walk_at "sx"
      refine ls.pair fun p16 B16 H16 _ n16 ls k16 => ?_
      walk_at "sx"
      refine sx_newM ls.e (by simp) fun p17 H17 hp17 n17 m17 => ?_
      walk_at "sx"
      refine (ls.up0 n17).cat m17.h (by simp; omega) (by simpa using ⟨k13.up ((n14.tr n15).tr n16).b, k16⟩) fun L18 H18 n18 ls => ?_
      walk_at "sx"
      walk_at "st"
      have ls : LS K d l ns t1 t2 v1 v2 p6 L18 (200 * i + 4) B16 H18 := ls
      clear n18 m17 hp17 n17 k16 n16 n15 sq14 n14 k13 n13 n12 sq11 n11 n10 m9 hp9 n9 k8 n8 n7 sq6 n6 n5 m4 hp4 n4 k3 n3 n2 sq1 n1
      obtain ⟨s, rr, rfl⟩ : ∃ s rr, ns = s :: rr := by
        cases ns with
        | nil => simp at nsl
        | cons s rr => exact ⟨s, rr, rfl⟩
      obtain ⟨y7, hy7⟩ : ∃ y7 : Option V, y7 = y7 := ⟨none, rfl⟩
      walk_at "sx"
      refine ⟨B16, p6, s, rr.map V.str, rfl, ls.e, ls.m6.sq, fun B1 H1 pb xsb n1 hpb mb db => ?_⟩
      have ob1 := ls.D.off hpb
      have ob2 : pb ≠ p6 := ls.m6.ne hpb
      have ob3 : pb ≠ L18 := by obtain ⟨xs, a, _⟩ := ls.xs; exact a.ne hpb
      have ls := ls.up0 n1
      have lb : (badS s).length = 34 := rfl
      have lxb := Dps.len db
      rw [lb] at lxb
      walk_at "sx"
      refine sx_forL_by mb.sq (fun k σ H' => ∃ (B' : Hp) (y7 y8 y9 y11 : Option V), σ = [some (.ref a), some (.ref d), some (.ref L18), some (.int (i : Int)), some (.ref p6), some v1, some v2, y7, y8, y9, none, y11, none] ∧ LS K d l (s :: rr) t1 t2 v1 v2 p6 L18 (200 * i + 4 + 2 * k) B' H' ∧ Mu B' H' pb xsb ∧ DpAll K B' xsb (badS s)) ⟨B1, _, _, _, _, rfl, ls, mb, db⟩ (fun k σ H' _ q => ?_) (fun k vb σ H2 hvb q => ?_) (fun σ H2 q => ?_)
      · obtain ⟨_, _, _, _, _, _, _, m, _⟩ := q
        exact m.sq
      · clear ls mb db
        obtain ⟨B2, y7, y8, y9, y11, rfl, ls, mb, db⟩ := q
        have hk := (List.getElem?_eq_some_iff.mp hvb).1
        obtain ⟨bd, hbd, dbd⟩ := Dps.got db hvb
        have hbm := List.mem_of_getElem? hbd
        have bw := bad_sums (ns := s :: rr) s nzz bd hbm
        have bz := bad_sums_sz s bd hbm
        refine sx_gname ?_
        walk_at "st"
        walk_at "sx"
        refine ⟨B2, v1, t1, rfl, ls.e, ls.d1, by omega, fun B3 H3 pp xsp fs n3 hpp mp dp cov lf => ?_⟩
        have ls := ls.up0 n3
        walk_at "sx"
        refine sx_lcPure (B := B3) (fun _ => true) id ls.e mp.sq (by have := Dps.len dp; rw [List.length_map] at this; omega) (fun _ => rfl) (fun x _ H1 R _ h => by walk_at "sx"; exact h) (fun x _ _ H1 R _ h => by walk_at "sx"; exact h) fun pc H4 hpc n4 mc => ?_
        rw [List.filter_eq_self.mpr (fun _ _ => rfl), List.map_id] at mc
        have oc := ls.D.off hpc
        have ls := ls.up0 n4
        have lxp := Dps.len dp
        rw [List.length_map] at lxp
        have root : ([], t1) ∈ fs := (cov.a [] t1 (.nil t1)).elim id fun ⟨q, hq, _⟩ => (by cases hq)
        have fpos : 0 < fs.length := List.length_pos_of_mem root
        walk_at "sx"
        refine ⟨B3, d, l, pc, xsp, rfl, ls.e, ls.D, mc.sq, oc.1, oc.2, by omega, by omega, fun B5 H5 i5 v5 n5 D5 hv5 => ?_⟩
        have ls := ls.upD n5 D5
        obtain ⟨fd, hfd, dfd⟩ := Dps.got dp hv5
        rw [List.getElem?_map] at hfd
        obtain ⟨f, hf, rfl⟩ : ∃ f, fs[i5]? = some f ∧ fdI f = fd := by
          cases z : fs[i5]? with
          | none => rw [z] at hfd; cases hfd
          | some f => rw [z] at hfd; exact ⟨f, rfl, by simpa using hfd⟩
        have hp := cov.f f (List.mem_of_getElem? hf)
        have dbd5 := Dp.up (n3.b.trans (n4.b.trans n5.b)) dbd
        refine sx_gtup2 (Dp.up (n4.b.trans n5.b) dfd) n5.h fun w1 w2 hw1 hw2 => ?_
        walk_at "st"
        obtain ⟨xsL, mL, pL, lL⟩ := ls.xs
        walk_at "sx"
        refine ls.tup fun p6' B6 H6 n6 sq6 ls => ?_
        walk_at "sx"
        have wl : ∀ {t u : Tm} {p : List Nat}, Path t p u → p.length ≤ t.size := by
          intro t u p h
          induction h with
          | nil => exact Nat.zero_le _
          | cons h r ih =>
            have := kid_size h
            rw [List.length_cons]
            omega
        have wl1 := wl hp
        have es1 := exch_sz (x := bd) hp
        have tt1 : t1.size * t1.size ≤ 30 * 30 := Nat.mul_le_mul q1 q1
        refine ⟨B6, v1, w1, vb, t1, f.2, f.1, bd, rfl, ls.e, ls.d1, Dp.up n6.b hw1, Dp.up n6.b dbd5, hp, by omega, fun B7 H7 v7 n7 d7 => ?_⟩
        have ls := ls.up0 n7
        walk_at "sx"
        refine ls.ask (n7.b.t sq6) d7 (by omega) (wrong_at hp dr1.ok (path_e hp dr1.ok) bw) fun B8 H8 n8 ls => ?_
        walk_at "sx"
        refine ls.pair fun p9 B9 H9 _ n9 ls k9 => ?_
        walk_at "sx"
        refine ls.add (by omega) k9 fun H10 n10 ls => ?_
        have mb10 := ((((((((mb.up n3).up n4).up n5 (by simp [ob1.1, ob1.2])).up n6).up n7).up n8).up n9).up n10 (by simp [ob3]))
        have e210 : Ex B2 B9 := n3.b.trans (n4.b.trans (n5.b.trans (n6.b.trans (n7.b.trans (n8.b.trans n9.b)))))
        have dbd10 := Dp.up e210 dbd
        have db10 := Dps.up e210 db
        clear lL pL mL e210 n10 k9 n9 n8 d7 n7 sq6 n6 hw1 hw2 dbd5 dfd hfd D5 n5 mc n4 mp dp cov n3 mb db dbd hp hf fpos root lxp oc hpc hpp lf es1 wl1
        walk_at "sx"
        refine ⟨B9, v2, t2, rfl, ls.e, ls.d2, by omega, fun B3 H3 pp xsp fs n3 hpp mp dp cov lf => ?_⟩
        have ls := ls.up0 n3
        walk_at "sx"
        refine sx_spots false ls.e mp dp (by omega) cov dr2.ok (fun _ _ => rfl) (fun u1 u2 u cu oku B' H' R e' du h => ?_) (fun u1 u2 H' R h => by walk_at "sx"; exact h) fun pc H4 xsc gs hpc n4 mc dc g1 g2 gl => ?_
        · obtain ⟨td, htd⟩ := tm_d u
          rw [htd] at du
          walk_at "sx"
          refine sx_ixTd du e' at0 fun uw huw => ?_
          cases Dp.str_v huw
          walk_at "sx"
          refine sx_newM e' (by simp) fun pq Hq hpq nq mq => ?_
          refine sx_ninLs ["same", "below", "not", "and", "or"] mq.sq ?_
          walk_at "sx"
          have := h Hq nq
          rw [show (!decide (fst u ∈ (["same", "below", "not", "and", "or"] : List Str))) = decide (cu = false) by rw [sort_of oku]; cases cu <;> rfl]
          exact this
        have oc := ls.D.off hpc
        have ls := ls.up0 n4
        have lxc := Dps.len dc
        rw [List.length_map] at lxc
        obtain ⟨pe, ue, hpe, hue⟩ := has_expr dr2.ok
        have fe : (pe, ue) ∈ fs := (cov.a pe ue hpe).elim id fun ⟨q, hq, _⟩ => (by cases hq)
        have gpos : 0 < gs.length := List.length_pos_of_mem (g2 _ fe hue)
        walk_at "sx"
        walk_at "st"
        obtain ⟨xsL, mL, pL, lL⟩ := ls.xs
        walk_at "sx"
        refine ls.tup fun p5' B5 H5 n5 sq5 ls => ?_
        walk_at "sx"
        refine ⟨B5, d, l, pc, xsc, rfl, ls.e, ls.D, (mc.up n5).sq, oc.1, oc.2, by omega, by omega, fun B6 H6 i6 v6 n6 D6 hv6 => ?_⟩
        have ls := ls.upD n6 D6
        obtain ⟨wd6, hwd, dwd⟩ := Dps.got dc hv6
        rw [List.getElem?_map] at hwd
        obtain ⟨w6, hw6, rfl⟩ : ∃ w, gs[i6]? = some w ∧ wd w = wd6 := by
          cases z : gs[i6]? with
          | none => rw [z] at hwd; cases hwd
          | some f => rw [z] at hwd; exact ⟨f, rfl, by simpa using hwd⟩
        obtain ⟨u6, hp, hu6⟩ := g1 w6 (List.mem_of_getElem? hw6)
        have wl1 := wl hp
        have es1 := exch_sz (x := bd) hp
        have tt2 : t2.size * t2.size ≤ 100 * 90 := Nat.mul_le_mul q2 (by omega)
        walk_at "sx"
        refine ⟨B6, v2, v6, vb, t2, u6, w6, bd, rfl, ls.e, ls.d2, Dp.up (n4.b.trans (n5.b.trans n6.b)) dwd, Dp.up (n3.b.trans (n4.b.trans (n5.b.trans n6.b))) dbd10, hp, by omega, fun B7 H7 v7 n7 d7 => ?_⟩
        have ls := ls.up0 n7
        walk_at "sx"
        refine ls.ask ((n6.b.trans n7.b).t sq5) d7 (by omega) (wrong_at hp dr2.ok hu6 bw) fun B8 H8 n8 ls => ?_
        walk_at "sx"
        refine ls.pair fun p9 B9 H9 _ n9 ls k9 => ?_
        walk_at "sx"
        refine ls.add (by omega) k9 fun H10 n10 ls => ?_
        refine ⟨B9, _, _, _, _, rfl, ls, ((((((((mb10.up n3).up n4).up n5).up n6 (by simp [ob1.1, ob1.2])).up n7).up n8).up n9).up n10 (by simp [ob3])), Dps.up (n3.b.trans (n4.b.trans (n5.b.trans (n6.b.trans (n7.b.trans (n8.b.trans n9.b)))))) db10⟩
      · clear ls mb db
        obtain ⟨B2, y7, y8, y9, y11, rfl, ls, mb, db⟩ := q
        rw [lxb] at ls
        clear mb db lxb lb ob1 ob2 ob3 n1 hpb
        walk_at "sx"
        refine ⟨B2, p6, s, rr.map V.str, rfl, ls.e, ls.m6.sq, fun B1 H1 pb xsb n1 hpb mb db => ?_⟩
        have ob1 := ls.D.off hpb
        have ob2 : pb ≠ p6 := ls.m6.ne hpb
        have ob3 : pb ≠ L18 := by obtain ⟨xs, a, _⟩ := ls.xs; exact a.ne hpb
        have ls := ls.up0 n1
        have lb : (badT s).length = 25 := rfl
        have lxb := Dps.len db
        rw [lb] at lxb
        walk_at "sx"
        refine sx_forL_by mb.sq (fun k σ H' => ∃ (B' : Hp) (y7 y8 y9 y11 : Option V), σ = [some (.ref a), some (.ref d), some (.ref L18), some (.int (i : Int)), some (.ref p6), some v1, some v2, y7, y8, y9, none, y11, none] ∧ LS K d l (s :: rr) t1 t2 v1 v2 p6 L18 (200 * i + 4 + 2 * 34 + 2 * k) B' H' ∧ Mu B' H' pb xsb ∧ DpAll K B' xsb (badT s)) ⟨B1, _, _, _, _, rfl, ls, mb, db⟩ (fun k σ H' _ q => ?_) (fun k vb σ H2 hvb q => ?_) (fun σ H2 q => ?_)
        · obtain ⟨_, _, _, _, _, _, _, m, _⟩ := q
          exact m.sq
        · clear ls mb db
          obtain ⟨B2, y7, y8, y9, y11, rfl, ls, mb, db⟩ := q
          have hk := (List.getElem?_eq_some_iff.mp hvb).1
          obtain ⟨bd, hbd, dbd⟩ := Dps.got db hvb
          have hbm := List.mem_of_getElem? hbd
          have bw := bad_tests (ns := s :: rr) s nzz bd hbm
          have bz := bad_tests_sz s bd hbm
          refine sx_gname ?_
          walk_at "st"
          walk_at "sx"
          refine ⟨B2, v2, t2, rfl, ls.e, ls.d2, by omega, fun B3 H3 pp xsp fs n3 hpp mp dp cov lf => ?_⟩
          have ls := ls.up0 n3
          walk_at "sx"
          refine sx_spots true ls.e mp dp (by omega) cov dr2.ok (fun _ _ => rfl) (fun u1 u2 u cu oku B' H' R e' du h => ?_) (fun u1 u2 H' R h => by walk_at "sx"; exact h) fun pc H4 xsc gs hpc n4 mc dc g1 g2 gl => ?_
          · obtain ⟨td, htd⟩ := tm_d u
            rw [htd] at du
            walk_at "sx"
            refine sx_ixTd du e' at0 fun uw huw => ?_
            cases Dp.str_v huw
            walk_at "sx"
            refine sx_newM e' (by simp) fun pq Hq hpq nq mq => ?_
            refine sx_inLs ["same", "below", "not", "and", "or"] mq.sq ?_
            walk_at "sx"
            have := h Hq nq
            rw [show decide (fst u ∈ (["same", "below", "not", "and", "or"] : List Str)) = decide (cu = true) by rw [sort_of oku]; cases cu <;> rfl]
            exact this
          have oc := ls.D.off hpc
          have ls := ls.up0 n4
          have lxc := Dps.len dc
          rw [List.length_map] at lxc
          have fe : ([], t2) ∈ fs := (cov.a [] t2 (.nil t2)).elim id fun ⟨q, hq, _⟩ => (by cases hq)
          have gpos : 0 < gs.length := List.length_pos_of_mem (g2 _ fe dr2.ok)
          walk_at "sx"
          walk_at "st"
          obtain ⟨xsL, mL, pL, lL⟩ := ls.xs
          walk_at "sx"
          refine ls.tup fun p5' B5 H5 n5 sq5 ls => ?_
          walk_at "sx"
          refine ⟨B5, d, l, pc, xsc, rfl, ls.e, ls.D, (mc.up n5).sq, oc.1, oc.2, by omega, by omega, fun B6 H6 i6 v6 n6 D6 hv6 => ?_⟩
          have ls := ls.upD n6 D6
          obtain ⟨wd6, hwd, dwd⟩ := Dps.got dc hv6
          rw [List.getElem?_map] at hwd
          obtain ⟨w6, hw6, rfl⟩ : ∃ w, gs[i6]? = some w ∧ wd w = wd6 := by
            cases z : gs[i6]? with
            | none => rw [z] at hwd; cases hwd
            | some f => rw [z] at hwd; exact ⟨f, rfl, by simpa using hwd⟩
          obtain ⟨u6, hp, hu6⟩ := g1 w6 (List.mem_of_getElem? hw6)
          have wl : ∀ {t u : Tm} {p : List Nat}, Path t p u → p.length ≤ t.size := by
            intro t u p h
            induction h with
            | nil => exact Nat.zero_le _
            | cons h r ih =>
              have := kid_size h
              rw [List.length_cons]
              omega
          have wl1 := wl hp
          have es1 := exch_sz (x := bd) hp
          have tt2 : t2.size * t2.size ≤ 100 * 90 := Nat.mul_le_mul q2 (by omega)
          walk_at "sx"
          have e26 := n3.b.trans (n4.b.trans (n5.b.trans n6.b))
          refine ⟨B6, v2, v6, vb, t2, u6, w6, bd, rfl, ls.e, ls.d2, Dp.up (n4.b.trans (n5.b.trans n6.b)) dwd, Dp.up e26 dbd, hp, by omega, fun B7 H7 v7 n7 d7 => ?_⟩
          have ls := ls.up0 n7
          walk_at "sx"
          refine ls.ask ((n6.b.trans n7.b).t sq5) d7 (by omega) (wrong_at hp dr2.ok hu6 bw) fun B8 H8 n8 ls => ?_
          walk_at "sx"
          refine ls.pair fun p9 B9 H9 _ n9 ls k9 => ?_
          walk_at "sx"
          refine ls.add (by omega) k9 fun H10 n10 ls => ?_
          have dbd9 := Dp.up (e26.trans (n7.b.trans (n8.b.trans n9.b))) dbd
          have mb9 := ((((((((mb.up n3).up n4).up n5).up n6 (by simp [ob1.1, ob1.2])).up n7).up n8).up n9).up n10 (by simp [ob3]))
          have db9 := Dps.up (e26.trans (n7.b.trans (n8.b.trans n9.b))) db
          obtain ⟨xsL2, mL2, pL2, lL2⟩ := ls.xs
          walk_at "sx"
          refine ls.tup fun p11 B11 H11 n11 sq11 ls => ?_
          walk_at "sx"
          refine ls.ask sq11 (Dp.up n11.b dbd9) (by omega) bw fun B12 H12 n12 ls => ?_
          walk_at "sx"
          refine ls.pair fun p13 B13 H13 _ n13 ls k13 => ?_
          walk_at "sx"
          refine ls.add (by omega) k13 fun H14 n14 ls => ?_
          exact ⟨B13, _, _, _, _, rfl, ls, (((mb9.up n11).up n12).up n13).up n14 (by simp [ob3]), Dps.up (n11.b.trans (n12.b.trans n13.b)) db9⟩
        · clear ls mb db
          obtain ⟨B2, y7, y8, y9, y11, rfl, ls, mb, db⟩ := q
          rw [lxb] at ls
          clear mb db lxb lb ob1 ob2 ob3 n1 hpb
          walk_at "sx"
          refine ⟨B2, v1, t1, rfl, ls.e, ls.d1, by omega, fun B1 H1 pp xsp fs n1 hpp mp dp cov lf => ?_⟩
          have op1 := ls.D.off hpp
          have op2 : pp ≠ L18 := by obtain ⟨xs, a, _⟩ := ls.xs; exact a.ne hpp
          have ls := ls.up0 n1
          have lxp := Dps.len dp
          rw [List.length_map] at lxp
          walk_at "sx"
          refine sx_forL_by mp.sq (fun k σ H' => ∃ (B' : Hp) (y7 y8 y9 y11 : Option V), σ = [some (.ref a), some (.ref d), some (.ref L18), some (.int (i : Int)), some (.ref p6), some v1, some v2, y7, y8, y9, none, y11, none] ∧ LS K d l (s :: rr) t1 t2 v1 v2 p6 L18 (200 * i + 4 + 2 * 34 + 2 * 25 + k) B' H' ∧ Mu B' H' pp xsp ∧ DpAll K B' xsp (fs.map fdI)) ⟨B1, _, _, _, _, rfl, ls, mp, dp⟩ (fun k σ H' _ q => ?_) (fun k vb σ H2 hvb q => ?_) (fun σ H2 q => ?_)
          · obtain ⟨_, _, _, _, _, _, _, m, _⟩ := q
            exact m.sq
          · clear ls mp dp
            obtain ⟨B2, y7, y8, y9, y11, rfl, ls, mp, dp⟩ := q
            have hk := (List.getElem?_eq_some_iff.mp hvb).1
            obtain ⟨fd, hfd, dfd⟩ := Dps.got dp hvb
            rw [List.getElem?_map] at hfd
            obtain ⟨f, hf, rfl⟩ : ∃ f, fs[k]? = some f ∧ fdI f = fd := by
              cases z : fs[k]? with
              | none => rw [z] at hfd; cases hfd
              | some f => rw [z] at hfd; exact ⟨f, rfl, by simpa using hfd⟩
            have hp := cov.f f (List.mem_of_getElem? hf)
            have po := path_ok hp
            have szf := f.2.szD_le
            have drf : Drawn (s :: rr) f.2 := ⟨path_e hp dr1.ok, fun z hz => dr1.fl z (po.1 z hz)⟩
            refine sx_gtup2 dfd ls.e fun w1 w2 hw1 hw2 => ?_
            walk_at "st"
            obtain ⟨xsL, mL, pL, lL⟩ := ls.xs
            walk_at "sx"
            refine ls.tup fun p11 B11 H11 n11 sq11 ls => ?_
            walk_at "sx"
            refine ls.ask sq11 (Dp.up n11.b hw2) (by omega) drf.right fun B12 H12 n12 ls => ?_
            walk_at "sx"
            refine ls.pair fun p13 B13 H13 _ n13 ls k13 => ?_
            walk_at "sx"
            refine ls.add (by omega) k13 fun H14 n14 ls => ?_
            exact ⟨B13, _, _, _, _, rfl, ls, (((mp.up n11).up n12).up n13).up n14 (by simp [op2]), Dps.up (n11.b.trans (n12.b.trans n13.b)) dp⟩
          · obtain ⟨B2, y7, y8, y9, y11, rfl, ls, mp, dp⟩ := q
            exact ⟨B2, L18, _, _, _, _, _, _, _, _, rfl, ls.out (by omega)⟩
    · rintro σ H3 ⟨B3, L, y3, y4, y5, y6, y7, y8, y9, y11, rfl, xs, e3, D3, m3, p3, l3, oL1, oL2⟩
      clear D2 m2 hL n2 off
      have emp : ∀ {B H : Hp} {p : Addr}, Dp K B (.ref p) (.tuple []) → SqT K B p (([] : List Str).map V.str) := by
        intro B H p h
        obtain ⟨q, zs, eq, hs, hd⟩ := Dp.tup_v h
        cases eq
        cases hd
        exact hs
      walk_at "sx"
      refine sx_newT (K := K) e3 .nil (by simp) fun p4 B4 H4 _ n4 d4 => ?_
      walk_at "sx"
      refine sx_newT (K := K) n4.h (.cons (.str "number") (.cons (.int (0 - 5)) .nil)) (by simp) fun p5 B5 H5 _ n5 d5 => ?_
      walk_at "sx"
      refine ⟨B5, p4, [], .ref p5, (Tm.num (0 - 5)).d, rfl, n5.h, n5.b.t (emp (H := H4) d4), d5, by simp [Tm.d, szD, szDs], fun B6 H6 n6 => ?_⟩
      rw [show rightD [] (srt "expression" (Tm.num (0 - 5)).d) = true from tm_right (ns := []) (.num (0 - 5)) false ⟨rfl, by decide⟩ (by simp [Tm.flds])]
      walk_at "sx"
      refine sx_newT (K := K) n6.h (.cons (.bl true) (.cons (.bl true) .nil)) (by simp) fun p7 B7 H7 _ n7 d7 => ?_
      have k7 := pair_b d7 rfl
      walk_at "sx"
      refine sx_newT (K := K) n7.h .nil (by simp) fun p8 B8 H8 _ n8 d8 => ?_
      walk_at "sx"
      refine sx_newT (K := K) n8.h (.cons (.str "field") (.cons (.str "f") .nil)) (by simp) fun p9 B9 H9 _ n9 d9 => ?_
      walk_at "sx"
      have hf : rightD [] (srt "expression" (Tm.fld "f").d) = false := by
        refine wrong_no ?_
        rw [parts_e, x_0 (by decide +kernel), pl_f]
        exact if_neg (by simp)
      refine ⟨B9, p8, [], .ref p9, (Tm.fld "f").d, rfl, n9.h, n9.b.t (emp (H := H8) d8), d9, by simp [Tm.d, szD, szDs], fun B10 H10 n10 => ?_⟩
      rw [hf]
      walk_at "sx"
      refine sx_newT (K := K) n10.h (.cons (.bl false) (.cons (.bl false) .nil)) (by simp) fun p11 B11 H11 _ n11 d11 => ?_
      have k11 := pair_b d11 rfl
      have n711 := ((n8.tr n9).tr n10).tr n11
      have n311 := (((n4.tr n5).tr n6).tr n7).tr n711
      walk_at "sx"
      refine sx_newM n11.h (by simp) fun p30 H30 _ n30 m30 => ?_
      walk_at "sx"
      have mL := (m3.up n311).up n30
      refine sx_cat n30.h mL.h m30.h (by simp; omega) fun p31 H31 _ n31 m31 => ?_
      walk_at "sx"
      walk_at "st"
      have n331 := (n311.tr n30).tr n31
      have p31 : ∀ x ∈ xs ++ [V.ref p7, V.ref p11], PairOk K B11 x := fun x hx => by
        simp only [List.mem_append, List.mem_cons, List.not_mem_nil, or_false] at hx
        rcases hx with hx | rfl | rfl
        · exact (p3 x hx).up n331.b
        · exact k7.up n711.b
        · exact k11
      have l31 : (xs ++ [V.ref p7, V.ref p11]).length = xs.length + 2 := by simp
      generalize xs ++ [V.ref p7, V.ref p11] = xs31 at m31 p31 l31
      have e31 := n31.h
      clear n331 n31 mL n30 m30 n311 n711 k11 k7 d11 n11 n10 hf d9 n9 d8 n8 d7 n7 n6 d5 n5 d4 n4
      walk_at "sx"
      refine sx_newT (K := K) e31 .nil (by simp) fun p4 B4 H4 _ n4 d4 => ?_
      walk_at "sx"
      refine sx_newT (K := K) n4.h (.cons (.str "number") (.cons (.int 1) .nil)) (by simp) fun p5 B5 H5 _ n5 d5 => ?_
      walk_at "sx"
      refine sx_newT (K := K) n5.h (.cons (.str "number") (.cons (.int 2) .nil)) (by simp) fun p6 B6 H6 _ n6 d6 => ?_
      walk_at "sx"
      refine sx_newT n6.h (.cons (.str "same") (.cons (Dp.up n6.b d5) (.cons d6 .nil))) (by simp) fun p7 B7 H7 _ n7 d7 => ?_
      walk_at "sx"
      have hsm : ("same" : Str) ∈ (["same", "below"] : List Str) := by decide +kernel
      have hc : rightD [] (srt "condition" (Tm.bin "same" (.num 1) (.num 2)).d) = true := tm_right (ns := []) (.bin "same" (.num 1) (.num 2)) true (.inr (.inl ⟨rfl, hsm, ⟨rfl, by decide⟩, ⟨rfl, by decide⟩⟩)) (by simp [Tm.flds])
      refine ⟨B7, p4, [], .ref p7, (Tm.bin "same" (.num 1) (.num 2)).d, rfl, n7.h, (n5.b.trans (n6.b.trans n7.b)).t (emp (H := H4) d4), d7, by simp [Tm.d, szD, szDs], fun B8 H8 n8 => ?_⟩
      rw [hc]
      walk_at "sx"
      refine sx_newT (K := K) n8.h (.cons (.bl true) (.cons (.bl true) .nil)) (by simp) fun p9 B9 H9 _ n9 d9 => ?_
      have k9 := pair_b d9 rfl
      have n09 := ((((n4.tr n5).tr n6).tr n7).tr n8).tr n9
      walk_at "sx"
      refine sx_newM n9.h (by simp) fun p30 H30 _ n30 m30 => ?_
      walk_at "sx"
      have mL := (m31.up n09).up n30
      refine sx_cat n30.h mL.h m30.h (by simp; omega) fun p32 H32 _ n32 m32 => ?_
      walk_at "sx"
      refine ⟨B9, p32, _, rfl, n32.h, m32.sq, by simp; omega, fun x hx => ?_, k⟩
      simp only [List.mem_append, List.mem_cons, List.not_mem_nil, or_false] at hx
      rcases hx with hx | rfl
      · exact (p31 x hx).up n09.b
      · exact k9
end
end C
namespace G
open PySem PySem.Spec PyProof.Rows L2
section
variable {K : PySem.W.Frag} {h : Heap} {mg : Str → Option Value}
/-- a def of the top as the head has it -/
theorem df_mk {x : Str} {st : Stmt} {f : Addr} {oc : Value} {od an : Option Addr} {osl : Array (Option Value)} {kV doc pm cdv ct : Value} (X : K.In h) (G : h.Ns mainGlobals mg) (a : PySem.W.nsIn K mainGlobals x = some (some (.ref f)))
    (l : K.lookup f = some ⟨oc, od, .func (PySem.W.fnOf x x (defArgs st) (defBody st) (defScope st) .none kV doc pm an cdv ct), osl⟩) (c : PySem.W.codeIn K cdv x = true) (k : PySem.W.keepIn K (.ref f) = true) : Df K mg x st :=
  ⟨f, _, fun_mk l c k, PySem.W.mg_of X G a⟩
theorem gs_mk {x z : Str} {t : Tok} (X : K.In h) (G : h.Ns mainGlobals mg) (a : PySem.W.nsIn K mainGlobals x = some (some (.str z t))) : ∃ t, mg x = some (.str z t) := ⟨t, PySem.W.mg_of X G a⟩
theorem gi_mk {x : Str} {z : Int} {t : Tok} (X : K.In h) (G : h.Ns mainGlobals mg) (a : PySem.W.nsIn K mainGlobals x = some (some (.int z t))) : ∃ t, mg x = some (.int z t) := ⟨t, PySem.W.mg_of X G a⟩
theorem gt_mk {x : Str} {a : Addr} {xs : List V} {dd : Option Addr} {its : List Value} {n : Nat} {sl : Array (Option Value)} (X : K.In h) (G : h.Ns mainGlobals mg) (e : PySem.W.nsIn K mainGlobals x = some (some (.ref a)))
    (l : K.lookup a = some ⟨.type "tuple", dd, .seq its.toArray n, sl⟩) (hv : Vals xs its) (hz : its.length ≤ 1000) : ∃ a, mg x = some (.ref a) ∧ ∀ H', SqT K H' a xs :=
  ⟨a, PySem.W.mg_of X G e, fun H' => .inr ⟨_, its.toArray, n, l, rfl, rfl, Nat.le_trans (by simpa using hz) (by decide : 1000 ≤ sizeLine), by simpa using hv⟩⟩
/-- a dict of the top, texts to defs -/
theorem kf_mk {w : World} {k x : Str} {a f : Addr} {es : List DictEntry} {n : Nat} (X : K.In h) (G : h.Ns mainGlobals mg) (l : K.lookup a = some ⟨.type "dict", none, .dict es.toArray n, #[]⟩) (hk : PySem.W.KeysLit w.params es)
    (e : PySem.W.nsIn K a k = some (some (.ref f))) (g : PySem.W.nsIn K mainGlobals x = some (some (.ref f))) : KFn K w mg a k x := ⟨f, PySem.W.mg_of X G g, es.toArray, n, .ref f, l, hk, e, rfl⟩
theorem kf_nil {w : World} {a : Addr} : ∀ q ∈ ([] : List (Str × Str)), KFn K w mg a q.1 q.2 := fun _ h => nomatch h
theorem kf_cons {w : World} {a : Addr} {k x : Str} {r : List (Str × Str)} (h : KFn K w mg a k x) (t : ∀ q ∈ r, KFn K w mg a q.1 q.2) : ∀ q ∈ (k, x) :: r, KFn K w mg a q.1 q.2 := fun q hq => by
  rcases List.mem_cons.mp hq with z | z
  · rw [z]; exact h
  · exact t q z
theorem gd_mk {w : World} {x : Str} {a : Addr} {ps : List (Str × Str)} (X : K.In h) (G : h.Ns mainGlobals mg) (e : PySem.W.nsIn K mainGlobals x = some (some (.ref a))) (t : ∀ q ∈ ps, KFn K w mg a q.1 q.2) : ∃ a, mg x = some (.ref a) ∧ ∀ q ∈ ps, KFn K w mg a q.1 q.2 := ⟨a, PySem.W.mg_of X G e, t⟩
/-- the law's own def -/
theorem law_mk {P : Program} {w : World} {st : Stmt} {k : Nat} {sp : Sp} {fa : Addr} (D : Df K mg "law" st) (hfa : mg "law" = some (.ref fa))
    (hb : ∀ (kV doc pm : Value) (an : Option Addr) (cdv ct : Value) (u : Value), bindArgs (PySem.W.fnOf "law" "law" (defArgs st) (defBody st) (defScope st) .none kV doc pm an cdv ct) ⟨[u], []⟩ = pure [(("script" : Str), u)])
    (H : ∀ base : Heap, Has P w K mg base "law" st k ["script"] sp) : ∃ fd : FuncData, (∀ (s : Shared) (v : Value), BindsTo s fd ⟨[v], []⟩ [("script", v)]) ∧ ∀ base : Heap, K.In base → base.Ns mainGlobals mg → FnOk P w K mg base CX0 k fa fd ["script"] sp := by
  obtain ⟨f, fd, F, m⟩ := D
  rw [hfa] at m
  have e : fa = f := by injection m with m; injection m
  subst e
  refine ⟨fd, fun s v => ?_, fun base _ _ => ?_⟩
  · obtain ⟨oc, od, kV, doc, pm, an, cdv, ct, osl, rfl, lk, hcd⟩ := F.ex
    exact .of_eq (hb _ _ _ _ _ _ _)
  · obtain ⟨f2, fd2, F2, m2, n2, _⟩ := (H base).ex
    rw [hfa] at m2
    have e2 : fa = f2 := by injection m2 with m2; injection m2
    subst e2
    obtain ⟨_, _, _, _, _, _, _, _, _, e3, lk, _⟩ := F.ex
    obtain ⟨_, _, _, _, _, _, _, _, _, e4, lk2, _⟩ := n2.ex
    rw [lk] at lk2
    have : fd = fd2 := by injection lk2 with z; injection z with _ _ z _; injection z
    rw [this]
    exact F2
end
end G
namespace C
open PySem L2 G
theorem law_end {P : Program} {w : World} {K : PySem.W.Frag} {mg : Str → Option Value} {fa : Addr} (hfa : mg "law" = some (.ref fa)) (T : Txt w K mg) : ∃ fd : FuncData, (∀ (s : Shared) (v : Value), BindsTo s fd ⟨[v], []⟩ [("script", v)]) ∧ ∀ base : Heap, K.In base → base.Ns mainGlobals mg → FnOk P w K mg base CX0 9 fa fd ["script"] (spLaw K) := law_mk T.d_law hfa (fun _ _ _ _ _ _ _ => rfl) (fun base => ok_law T)
end C
open PySem PySem.W PyProof.Rows
set_option maxRecDepth 100000 in
set_option maxHeartbeats 0 in
theorem PySem.Challenge.cw_typedback_k02_what_is_an_expression_or_a_holds : PySem.Challenge.rw_typedback_k02_what_is_an_expression_or_a.Holds := by
  w_on; o_law; k_head; (case hw => w_witness2)
  k_fill
  refine L2.walk_of (l := PySem.Challenge.rw_typedback_k02_what_is_an_expression_or_a) (n := 63) (k := 9) (x := "script") (CX := fun _ => L2.CX0) (sp := fun w => C.spLaw _) rfl (by decide) rfl ⟨rfl, by decide, by decide⟩ (fun w h Y => PySem.W.kIn_of Y) ?F (fun _ _ a ns hl _ hS => ⟨a, ns, rfl, hS, hl, fun _ => rfl⟩) (fun _ _ _ _ _ h => h)
  case F =>
    intro w mg fa h KX GM hmg
    refine' C.law_end hmg ?T
    case T =>
      constructor
      · refine' G.df_mk KX GM ?a ?l ?c ?k; (case a => k_is); (case l => k_is); (case c => k_is); (case k => k_is)
      · refine' G.df_mk KX GM ?a ?l ?c ?k; (case a => k_is); (case l => k_is); (case c => k_is); (case k => k_is)
      · refine' G.df_mk KX GM ?a ?l ?c ?k; (case a => k_is); (case l => k_is); (case c => k_is); (case k => k_is)
      · refine' G.df_mk KX GM ?a ?l ?c ?k; (case a => k_is); (case l => k_is); (case c => k_is); (case k => k_is)
      · refine' G.df_mk KX GM ?a ?l ?c ?k; (case a => k_is); (case l => k_is); (case c => k_is); (case k => k_is)
      · refine' G.df_mk KX GM ?a ?l ?c ?k; (case a => k_is); (case l => k_is); (case c => k_is); (case k => k_is)
      · refine' G.df_mk KX GM ?a ?l ?c ?k; (case a => k_is); (case l => k_is); (case c => k_is); (case k => k_is)
      · refine' G.df_mk KX GM ?a ?l ?c ?k; (case a => k_is); (case l => k_is); (case c => k_is); (case k => k_is)
      · refine' G.df_mk KX GM ?a ?l ?c ?k; (case a => k_is); (case l => k_is); (case c => k_is); (case k => k_is)
      · refine' G.df_mk KX GM ?a ?l ?c ?k; (case a => k_is); (case l => k_is); (case c => k_is); (case k => k_is)
      · refine' G.df_mk KX GM ?a ?l ?c ?k; (case a => k_is); (case l => k_is); (case c => k_is); (case k => k_is)
      · refine' G.df_mk KX GM ?a ?l ?c ?k; (case a => k_is); (case l => k_is); (case c => k_is); (case k => k_is)
      · refine' G.df_mk KX GM ?a ?l ?c ?k; (case a => k_is); (case l => k_is); (case c => k_is); (case k => k_is)
      · refine' G.df_mk KX GM ?a ?l ?c ?k; (case a => k_is); (case l => k_is); (case c => k_is); (case k => k_is)
      · refine' G.df_mk KX GM ?a ?l ?c ?k; (case a => k_is); (case l => k_is); (case c => k_is); (case k => k_is)
      · refine' G.df_mk KX GM ?a ?l ?c ?k; (case a => k_is); (case l => k_is); (case c => k_is); (case k => k_is)
      · refine' G.df_mk KX GM ?a ?l ?c ?k; (case a => k_is); (case l => k_is); (case c => k_is); (case k => k_is)
      · refine' G.df_mk KX GM ?a ?l ?c ?k; (case a => k_is); (case l => k_is); (case c => k_is); (case k => k_is)
      · refine' G.df_mk KX GM ?a ?l ?c ?k; (case a => k_is); (case l => k_is); (case c => k_is); (case k => k_is)
      · refine' G.df_mk KX GM ?a ?l ?c ?k; (case a => k_is); (case l => k_is); (case c => k_is); (case k => k_is)
      · refine' G.df_mk KX GM ?a ?l ?c ?k; (case a => k_is); (case l => k_is); (case c => k_is); (case k => k_is)
      · refine' G.df_mk KX GM ?a ?l ?c ?k; (case a => k_is); (case l => k_is); (case c => k_is); (case k => k_is)
      · refine' G.df_mk KX GM ?a ?l ?c ?k; (case a => k_is); (case l => k_is); (case c => k_is); (case k => k_is)
      · exact PySem.W.mg_none_of KX GM (by k_is)
      · exact PySem.W.mg_none_of KX GM (by k_is)
      · exact PySem.W.mg_none_of KX GM (by k_is)
      · exact PySem.W.mg_none_of KX GM (by k_is)
      · exact PySem.W.mg_none_of KX GM (by k_is)
      · exact PySem.W.mg_none_of KX GM (by k_is)
      · exact PySem.W.mg_none_of KX GM (by k_is)
      · exact PySem.W.mg_none_of KX GM (by k_is)
      · exact PySem.W.mg_none_of KX GM (by k_is)
      · exact PySem.W.mg_none_of KX GM (by k_is)
      · refine' G.gs_mk KX GM ?a; (case a => k_is)
      · refine' G.gs_mk KX GM ?a; (case a => k_is)
      · refine' G.gt_mk KX GM ?a ?l ?v ?z; (case a => k_is); (case l => k_is); (case v => exact (.cons ⟨_, rfl⟩ (.cons ⟨_, rfl⟩ (.cons ⟨_, rfl⟩ (.cons ⟨_, rfl⟩ (.cons ⟨_, rfl⟩ .nil)))))); (case z => decide)
      · refine' G.gt_mk KX GM ?a ?l ?v ?z; (case a => k_is); (case l => k_is); (case v => exact (.cons ⟨_, rfl⟩ (.cons ⟨_, rfl⟩ .nil))); (case z => decide)
      · refine' G.gt_mk KX GM ?a ?l ?v ?z; (case a => k_is); (case l => k_is); (case v => exact (.cons ⟨_, rfl⟩ (.cons ⟨_, rfl⟩ .nil))); (case z => decide)
      · refine' G.gt_mk KX GM ?a ?l ?v ?z; (case a => k_is); (case l => k_is); (case v => exact (.cons ⟨_, rfl⟩ (.cons ⟨_, rfl⟩ .nil))); (case z => decide)
      · refine' G.gs_mk KX GM ?a; (case a => k_is)
      · refine' G.gs_mk KX GM ?a; (case a => k_is)
      · refine' G.gs_mk KX GM ?a; (case a => k_is)
