import PyProof.Rows.All
import Wide.All
import OpenK.AllK
import Wide.FinOn
import HandS.ForMost
import HandS.IsInst
import HandS.Style
import HandS.Wide
import HandS.More
import HandS.CallLocal
import KE.KDictPairs
import PySem.Challenge.RW_typedback_k01_whether_conditions_hold
set_option Elab.async false
set_option linter.all false
set_option maxRecDepth 100000
set_option maxHeartbeats 4000000
/-! GL: our own layer over the hand layer: defs by name, data that stays, rules that lack, short readings. -/
namespace G
open PySem PySem.Spec PyProof.Rows L2

/-! ### defs by name -/
/-- where a def of the text stands -/
def Df (K : PySem.W.Frag) (mg : Str → Option Value) (x : Str) (st : Stmt) : Prop := ∃ f fd, Fun K x x st f fd ∧ mg x = some (.ref f)
/-- a def that keeps a promise, called by its name -/
structure Has (P : Program) (w : World) (K : PySem.W.Frag) (mg : Str → Option Value) (base : Heap) (x : Str) (st : Stmt) (k : Nat) (ps : List Str) (sp : Sp) : Prop where
  ex : ∃ f fd, FnOk P w K mg base CX0 k f fd ps sp ∧ mg x = some (.ref f) ∧ Fun K x x st f fd ∧ Binds K fd ps []
section
variable {P : Program} {w : World} {K : PySem.W.Frag} {mg : Str → Option Value} {base : Heap}
theorem has_mk {x : Str} {st : Stmt} {N ps : List Str} {k : Nat} {sp : Sp} (D : Df K mg x st) (S : FnScope N ps (defScope st))
    (hb : ∀ (kV doc pm : Value) (an : Option Addr) (cdv ct : Value) (us : List Value), us.length = ps.length → bindArgs (PySem.W.fnOf x x (defArgs st) (defBody st) (defScope st) .none kV doc pm an cdv ct) ⟨us, []⟩ = pure (ps.zip us))
    (len : ∀ vs H Q E, sp vs H Q E → vs.length = ps.length)
    (hbody : ∀ (f : Addr) (cdv : Value) (A : Around) (outer : List Env) (s : Shared) (H : Hp) (vs : List V) (Q : VK) (E : XK), Room k (A.deeper (envOfC x (defScope st) s.heap.objs.size f cdv)) → sp vs H Q E →
      ∃ t, PSs (cxOf CX0 P w K mg base N x (defScope st) f cdv A outer s H E).nox (defBody st) t ∧ t { nx := fun _ H' => Q .non H', rt := Q } (start N vs) H) : Has P w K mg base x st (k + 1) ps sp := by
  obtain ⟨f, fd, F, m⟩ := D
  exact ⟨f, fd, F.ok S len (hbody f), m, F, F.binds hb⟩
theorem Has.mono {x : Str} {st : Stmt} {j k : Nat} {ps : List Str} {sp : Sp} (h : Has P w K mg base x st j ps sp) (hk : j ≤ k) : Has P w K mg base x st k ps sp := by
  obtain ⟨f, fd, F, m, b⟩ := h
  exact ⟨f, fd, F.mono hk, m, b⟩
/-- a weaker promise -/
theorem Has.imp {x : Str} {st : Stmt} {k : Nat} {ps : List Str} {sp sp' : Sp} (h : Has P w K mg base x st k ps sp) (hi : ∀ vs H Q E, sp' vs H Q E → sp vs H Q E) : Has P w K mg base x st k ps sp' := by
  obtain ⟨f, fd, F, m, b⟩ := h
  exact ⟨f, fd, F.imp hi, m, b⟩
end
section
variable {X : Cx} {x : Str} {st : Stmt} {k j : Nat} {ps : List Str} {sp : Sp} {p pos : Pos} {e : Expr} {es : List Expr} {t : TA}
theorem pe_callH (F : Has X.prog X.w X.K X.mg X.base x st k ps sp) (hr : Room j X.A) (hg : Gl X x) (ha : PA X (e :: es) t) (hk : k ≤ j := by decide)
    (hdb : (x == ("__debug__" : Str)) = false := by decide) (he : starEach (e :: es) X.env = (false, eval e X.env) :: starEach es X.env := by rfl) (hpl : (backTo pos (starEach es X.env)).any (·.1) = false := by rfl) :
    PE X (.Call (.Name x p) (e :: es) [] pos) (tCall sp [] E0 t) := by
  obtain ⟨f, fd, F, m, fn, b⟩ := F
  exact pe_call F (hr.mono hk) hg m fn.kp b .nil pass0 ha hdb he hpl
theorem pe_call0H (F : Has X.prog X.w X.K X.mg X.base x st k ps sp) (hr : Room j X.A) (hg : Gl X x) (hk : k ≤ j := by decide)
    (hdb : (x == ("__debug__" : Str)) = false := by decide) : PE X (.Call (.Name x p) [] [] pos) (tCall sp [] E0 tNil) := by
  obtain ⟨f, fd, F, m, fn, b⟩ := F
  exact pe_call0 F (hr.mono hk) hg m fn.kp b .nil pass0 hdb
end

/-! ### names of the module -/
section
variable {X : Cx} {x : Str} {pos : Pos}
theorem pe_gS {z : Str} (hg : Gl X x) (g : ∃ t, X.mg x = some (.str z t)) (hd : (x == ("__debug__" : Str)) = false := by decide) : PE X (.Name x pos) (tC (.str z)) := by
  obtain ⟨t, g⟩ := g
  exact pe_glob hg g ⟨t, rfl⟩ hd
theorem pe_gI {z : Int} (hg : Gl X x) (g : ∃ t, X.mg x = some (.int z t)) (hd : (x == ("__debug__" : Str)) = false := by decide) : PE X (.Name x pos) (tC (.int z)) := by
  obtain ⟨t, g⟩ := g
  exact pe_glob hg g ⟨t, rfl⟩ hd
/-- a tuple of the module's top -/
def tGT (K : PySem.W.Frag) (xs : List V) : TE := fun _ H Q => ∀ a, (∀ H', SqT K H' a xs) → Q (.ref a) H
theorem pe_gR {xs : List V} (hg : Gl X x) (g : ∃ a, X.mg x = some (.ref a) ∧ ∀ H', SqT X.K H' a xs) (hd : (x == ("__debug__" : Str)) = false := by decide) : PE X (.Name x pos) (tGT X.K xs) := by
  obtain ⟨a, g, h⟩ := g
  refine ⟨fun pins s σ H Q I q => ld_glob I hg g ⟨.ref a, H, I, rfl, q a h⟩ hd⟩
theorem pe_bT {n : String} (hg : Gl X x) (hm : X.mg x = none) (hv : bootBuiltins x = some (.type n)) (hn : x ≠ "__name__" := by decide) (hd : (x == ("__debug__" : Str)) = false := by decide) : PE X (.Name x pos) (tC (.ty n)) :=
  pe_bltn hg hm hv rfl hn hd
end

/-! ### rules that lack -/
section
variable {X : Cx}
/-- x is True, x is False, whatever x is -/
def rIsBV : R2 := fun x y H Q => ∃ b : Bool, y = .bl b ∧ Q (.bl (decide (x = .bl b))) H
theorem plain_bool {x : V} {v : Value} {b : Bool} (r : RelV x v) : plainIs v (.bool b) = true ∧ (v == Value.bool b) = decide (x = .bl b) := by
  cases x with
  | non => cases (show v = Value.none from r); exact ⟨rfl, (decide_eq_false (fun h => nomatch h)).symm⟩
  | bl c =>
    cases (show v = Value.bool c from r)
    refine ⟨rfl, ?_⟩
    cases b <;> cases c <;> rfl
  | int _ => obtain ⟨t, rfl⟩ := r; exact ⟨rfl, (decide_eq_false (fun h => nomatch h)).symm⟩
  | str _ => obtain ⟨t, rfl⟩ := r; exact ⟨rfl, (decide_eq_false (fun h => nomatch h)).symm⟩
  | byt _ => obtain ⟨t, rfl⟩ := r; exact ⟨rfl, (decide_eq_false (fun h => nomatch h)).symm⟩
  | flt _ => obtain ⟨t, rfl⟩ := r; exact ⟨rfl, (decide_eq_false (fun h => nomatch h)).symm⟩
  | ref _ => cases r; exact ⟨rfl, (decide_eq_false (fun h => nomatch h)).symm⟩
  | ty _ => cases r; exact ⟨rfl, (decide_eq_false (fun h => nomatch h)).symm⟩
theorem op_isBV : OpR X (compareOp .Is) rIsBV := by
  intro pins s σ H x y v u Q I rx ry h
  obtain ⟨b, rfl, q⟩ := h
  cases (show u = Value.bool b from ry)
  obtain ⟨p1, p2⟩ := plain_bool (b := b) rx
  exact wpAny_is_plain p1 ⟨.bl _, H, I, by rw [p2]; rfl, q⟩

/-- == and != of a list or a tuple with an empty one -/
def rEqE (K : PySem.W.Frag) (neg : Bool) : R2 := fun x y H Q => ∃ a b xs, x = .ref a ∧ y = .ref b ∧ ((SqL K H a xs ∧ SqL K H b []) ∨ (SqT K H a xs ∧ SqT K H b [])) ∧ Q (.bl (if neg then !xs.isEmpty else xs.isEmpty)) H
end

/-! ### the frozen part of the heap -/
def Ex (H H' : Hp) : Prop := ∀ a o, H a = some o → H' a = some o
theorem Ex.refl (H : Hp) : Ex H H := fun _ _ h => h
theorem Ex.trans {H H1 H2 : Hp} (a : Ex H H1) (b : Ex H1 H2) : Ex H H2 := fun x o h => b x o (a x o h)
theorem Ex.new {H : Hp} {p : Addr} {o : HO} (h : H p = none) : Ex H (upd H p o) := fun a u e => by
  rw [upd_ne (ne_of_none e h)]
  exact e
theorem Ex.free {H H' : Hp} {p : Addr} (e : Ex H H') (h : H' p = none) : H p = none := by
  cases q : H p with
  | none => rfl
  | some o =>
    rw [e p o q] at h
    cases h
theorem Ex.rd {H H' : Hp} {a : Addr} {u : HO} (e : Ex H H') (h : Rd H a u) : Rd H' a u := by
  rcases h with h | ⟨o, h⟩
  · exact Or.inl (e a _ h)
  · exact Or.inr ⟨o, e a _ h⟩
theorem Ex.l {K : PySem.W.Frag} {H H' : Hp} {a : Addr} {xs : List V} (e : Ex H H') (h : SqL K H a xs) : SqL K H' a xs := by
  rcases h with h | h
  · exact Or.inl (e.rd h)
  · exact Or.inr h
theorem Ex.t {K : PySem.W.Frag} {H H' : Hp} {a : Addr} {xs : List V} (e : Ex H H') (h : SqT K H a xs) : SqT K H' a xs := by
  rcases h with h | h
  · exact Or.inl (e.rd h)
  · exact Or.inr h
theorem Ex.mut {B H : Hp} {l : Addr} {o : HO} (e : Ex B H) (h : B l = none) : Ex B (upd H l o) := fun a u ha => by
  rw [upd_ne (ne_of_none ha h)]
  exact e a u ha

section
variable {K : PySem.W.Frag} {B B' H H' : Hp}
mutual
theorem Dp.up (e : Ex B B') : ∀ {d : PyData} {v : V}, Dp K B v d → Dp K B' v d
  | .none, _, h => by cases h; exact .non
  | .bool _, _, h => by cases h; exact .bl _
  | .int _, _, h => by cases h; exact .int _
  | .str _, _, h => by cases h; exact .str _
  | .list ds, _, h => by
    cases h with
    | lst hs ha => exact .lst (e.l hs) (Dps.up e ha)
  | .tuple ds, _, h => by
    cases h with
    | tup hs ha => exact .tup (e.t hs) (Dps.up e ha)
  | .dict _, _, h => by cases h
theorem Dps.up (e : Ex B B') : ∀ {ds : List PyData} {vs : List V}, DpAll K B vs ds → DpAll K B' vs ds
  | [], _, h => by cases h; exact .nil
  | _ :: _, _, h => by
    cases h with
    | cons h1 h2 => exact .cons (Dp.up e h1) (Dps.up e h2)
end
theorem Dps.len : ∀ {ds : List PyData} {vs : List V}, DpAll K B vs ds → vs.length = ds.length
  | [], _, h => by cases h; rfl
  | _ :: _, _, h => by
    cases h with
    | cons h1 h2 => rw [List.length_cons, List.length_cons, Dps.len h2]
theorem Dps.get : ∀ {ds : List PyData} {vs : List V} {i : Nat} {d : PyData}, DpAll K B vs ds → ds[i]? = some d → ∃ v, vs[i]? = some v ∧ Dp K B v d
  | [], _, _, _, _, e => by simp at e
  | _ :: _, _, i, _, h, e => by
    cases h with
    | cons h1 h2 =>
      cases i with
      | zero => exact ⟨_, rfl, by rw [← Option.some.inj e]; exact h1⟩
      | succ i => exact Dps.get (i := i) h2 e
theorem Dps.got : ∀ {ds : List PyData} {vs : List V} {i : Nat} {v : V}, DpAll K B vs ds → vs[i]? = some v → ∃ d, ds[i]? = some d ∧ Dp K B v d
  | [], _, _, _, h, e => by cases h; simp at e
  | _ :: _, _, i, _, h, e => by
    cases h with
    | cons h1 h2 =>
      cases i with
      | zero => exact ⟨_, rfl, by rw [← Option.some.inj e]; exact h1⟩
      | succ i => exact Dps.got (i := i) h2 e
theorem Dps.app : ∀ {ds es : List PyData} {vs us : List V}, DpAll K B vs ds → DpAll K B us es → DpAll K B (vs ++ us) (ds ++ es)
  | [], _, _, _, h, k => by cases h; exact k
  | _ :: _, _, _, _, h, k => by
    cases h with
    | cons h1 h2 => exact .cons h1 (Dps.app h2 k)
theorem Dps.one {v : V} {d : PyData} (h : Dp K B v d) : DpAll K B [v] [d] := .cons h .nil
theorem Dps.rev : ∀ {ds : List PyData} {vs : List V}, DpAll K B vs ds → DpAll K B vs.reverse ds.reverse
  | [], _, h => by cases h; exact .nil
  | _ :: _, _, h => by
    cases h with
    | cons h1 h2 =>
      rw [List.reverse_cons, List.reverse_cons]
      exact Dps.app (Dps.rev h2) (Dps.one h1)
theorem Dps.take : ∀ (n : Nat) {ds : List PyData} {vs : List V}, DpAll K B vs ds → DpAll K B (vs.take n) (ds.take n)
  | 0, _, _, _ => .nil
  | n + 1, [], _, h => by cases h; exact .nil
  | n + 1, _ :: _, _, h => by
    cases h with
    | cons h1 h2 => exact .cons h1 (Dps.take n h2)
theorem Dps.drop : ∀ (n : Nat) {ds : List PyData} {vs : List V}, DpAll K B vs ds → DpAll K B (vs.drop n) (ds.drop n)
  | 0, _, _, h => h
  | n + 1, [], _, h => by cases h; exact .nil
  | n + 1, _ :: _, _, h => by
    cases h with
    | cons h1 h2 => exact Dps.drop n h2
theorem Dps.init {ds : List PyData} {vs : List V} (h : DpAll K B vs ds) : DpAll K B vs.dropLast ds.dropLast := by
  rw [List.dropLast_eq_take, List.dropLast_eq_take, Dps.len h]
  exact Dps.take _ h
theorem Dps.erase : ∀ {i : Nat} {ds : List PyData} {vs : List V}, DpAll K B vs ds → DpAll K B (vs.eraseIdx i) (ds.eraseIdx i)
  | _, [], _, h => by cases h; exact .nil
  | 0, _ :: _, _, h => by
    cases h with
    | cons h1 h2 => exact h2
  | i + 1, _ :: _, _, h => by
    cases h with
    | cons h1 h2 => exact .cons h1 (Dps.erase h2)
theorem Dps.set : ∀ {i : Nat} {ds : List PyData} {vs : List V} {v : V} {d : PyData}, DpAll K B vs ds → Dp K B v d → DpAll K B (vs.set i v) (ds.set i d)
  | _, [], _, _, _, h, _ => by cases h; exact .nil
  | 0, _ :: _, _, _, _, h, k => by
    cases h with
    | cons h1 h2 => exact .cons k h2
  | i + 1, _ :: _, _, _, _, h, k => by
    cases h with
    | cons h1 h2 => exact .cons h1 (Dps.set h2 k)
/-- the last of a list that isn't empty -/
theorem Dps.last {ds : List PyData} {vs : List V} {d : PyData} (h : DpAll K B vs (ds ++ [d])) : ∃ us v, vs = us ++ [v] ∧ DpAll K B us ds ∧ Dp K B v d := by
  have h1 := Dps.rev h
  rw [List.reverse_append, List.reverse_singleton] at h1
  cases e : vs.reverse with
  | nil => rw [e] at h1; cases h1
  | cons v r =>
    rw [e] at h1
    cases h1 with
    | cons a b =>
      have e2 : vs = r.reverse ++ [v] := by rw [← List.reverse_reverse vs, e, List.reverse_cons]
      refine ⟨r.reverse, v, e2, ?_, a⟩
      have b2 : DpAll K B r ds.reverse := b
      have := Dps.rev b2
      rwa [List.reverse_reverse] at this
theorem Dp.int_v {v : V} {i : Int} (h : Dp K B v (.int i)) : v = .int i := by cases h; rfl
theorem Dp.str_v {v : V} {i : Str} (h : Dp K B v (.str i)) : v = .str i := by cases h; rfl
theorem Dp.bool_v {v : V} {i : Bool} (h : Dp K B v (.bool i)) : v = .bl i := by cases h; rfl
theorem Dp.none_v {v : V} (h : Dp K B v .none) : v = .non := by cases h; rfl
theorem Dp.tup_v {v : V} {ds : List PyData} (h : Dp K B v (.tuple ds)) : ∃ a xs, v = .ref a ∧ SqT K B a xs ∧ DpAll K B xs ds := by
  cases h with
  | tup hs ha => exact ⟨_, _, rfl, hs, ha⟩
theorem Dp.lst_v {v : V} {ds : List PyData} (h : Dp K B v (.list ds)) : ∃ a xs, v = .ref a ∧ SqL K B a xs ∧ DpAll K B xs ds := by
  cases h with
  | lst hs ha => exact ⟨_, _, rfl, hs, ha⟩
/-- the type of data -/
def tyD : PyData → String
  | .none => "NoneType" | .bool _ => "bool" | .int _ => "int" | .str _ => "str" | .list _ => "list" | .tuple _ => "tuple" | .dict _ => "dict"
theorem Dp.ty {v : V} {d : PyData} (h : Dp K B v d) (e : Ex B H) : TyX K H v (.type (tyD d)) := by
  have g := Dp.up e h
  cases g with
  | non => exact .base .non
  | bl b => exact .base (.bl b)
  | int i => exact .base (.int i)
  | str x => exact .base (.str x)
  | lst hs ha =>
    rcases hs with (h1 | ⟨o, h1⟩) | ⟨o, its, n, h1, h2, _⟩
    · exact .base (.lst h1)
    · exact .base (.frz h1)
    · exact .kList h1 h2
  | tup hs ha =>
    rcases hs with (h1 | ⟨o, h1⟩) | ⟨o, its, n, h1, h2, _⟩
    · exact .base (.tup h1)
    · exact .fTuple h1
    · exact .kTuple h1 h2
end

/-! ### a step of the heap: B what is frozen, H all that is tracked; M may be changed -/
structure Nx (M : List Addr) (B H B' H' : Hp) : Prop where
  b : Ex B B'
  h : Ex B' H'
  k : ∀ a o, H a = some o → a ∉ M → H' a = some o
  f : ∀ a, B a = none → H a ≠ none → B' a = none
theorem Nx.refl {M : List Addr} {B H : Hp} (e : Ex B H) : Nx M B H B H := ⟨Ex.refl _, e, fun _ _ h _ => h, fun _ h _ => h⟩
theorem Nx.trans {M : List Addr} {B H B1 H1 B2 H2 : Hp} (m : Nx M B H B1 H1) (n : Nx M B1 H1 B2 H2) (hm : ∀ a ∈ M, H a ≠ none → H1 a ≠ none) : Nx M B H B2 H2 :=
  ⟨m.b.trans n.b, n.h, fun a o h q => n.k a o (m.k a o h q) q, fun a h q => n.f a (m.f a h q) (by
    by_cases z : a ∈ M
    · exact hm a z q
    · intro y
      cases e : H a with
      | none => exact q e
      | some o => rw [m.k a o e z] at y; cases y)⟩
theorem Nx.wk {M M' : List Addr} {B H B' H' : Hp} (n : Nx M B H B' H') (h : ∀ a ∈ M, a ∈ M') : Nx M' B H B' H' := ⟨n.b, n.h, fun a o e q => n.k a o e fun z => q (h a z), n.f⟩
theorem Nx.ex {B H B' H' : Hp} (n : Nx [] B H B' H') : Ex H H' := fun a o h => n.k a o h (by simp)
/-- pure steps -/
theorem Nx.tr {B H B1 H1 B2 H2 : Hp} (m : Nx [] B H B1 H1) (n : Nx [] B1 H1 B2 H2) : Nx [] B H B2 H2 := m.trans n fun a z => absurd z (by simp)
/-- a new object that is frozen -/
theorem Nx.new {M : List Addr} {B H : Hp} {p : Addr} {o : HO} (e : Ex B H) (h : H p = none) : Nx M B H (upd B p o) (upd H p o) :=
  ⟨Ex.new (e.free h), fun a u q => by
    by_cases z : a = p
    · subst z; rw [upd_same] at q ⊢; exact q
    · rw [upd_ne z] at q ⊢; exact e a u q, fun a u q _ => by rw [upd_ne (ne_of_none q h)]; exact q, fun a q r => by
    rw [upd_ne (fun z => r (by rw [z]; exact h))]
    exact q⟩
/-- a new object that may change -/
theorem Nx.own {M : List Addr} {B H : Hp} {p : Addr} {o : HO} (e : Ex B H) (h : H p = none) : Nx M B H B (upd H p o) :=
  ⟨Ex.refl _, e.trans (Ex.new h), fun a u q _ => by rw [upd_ne (ne_of_none q h)]; exact q, fun a q _ => q⟩
/-- a list that may change -/
structure Mu (B H : Hp) (l : Addr) (xs : List V) : Prop where
  b : B l = none
  h : H l = some (.lst xs)
theorem Mu.up {M : List Addr} {B H B' H' : Hp} {l : Addr} {xs : List V} (m : Mu B H l xs) (n : Nx M B H B' H') (h : l ∉ M := by simp) : Mu B' H' l xs := ⟨n.f l m.b (by rw [m.h]; exact fun z => nomatch z), n.k l _ m.h h⟩
theorem Mu.new {B H : Hp} {p : Addr} {xs : List V} (e : Ex B H) (h : H p = none) : Mu B (upd H p (.lst xs)) p xs := ⟨e.free h, upd_same⟩
theorem Mu.ne {B H : Hp} {l p : Addr} {xs : List V} (m : Mu B H l xs) (h : H p = none) : p ≠ l := fun z => by
  rw [z, m.h] at h
  cases h
theorem Mu.ne' {B H : Hp} {l p : Addr} {xs : List V} (m : Mu B H l xs) (h : H p = none) : l ≠ p := (m.ne h).symm
/-- .. is changed -/
theorem Mu.put {B H : Hp} {l : Addr} {xs ys : List V} (m : Mu B H l xs) (e : Ex B H) : Nx [l] B H B (upd H l (.lst ys)) :=
  ⟨Ex.refl _, e.mut m.b, fun a u q z => by rw [upd_ne (fun y => z (by rw [y]; simp))]; exact q, fun a q _ => q⟩
theorem Mu.set {B H : Hp} {l : Addr} {xs ys : List V} (m : Mu B H l xs) : Mu B (upd H l (.lst ys)) l ys := ⟨m.b, upd_same⟩
theorem Mu.off {B H : Hp} {l p : Addr} {xs ys : List V} (m : Mu B H l xs) (h : l ≠ p) : Mu B (upd H p (.lst ys)) l xs := ⟨m.b, by rw [upd_ne h]; exact m.h⟩
theorem Mu.sq {K : PySem.W.Frag} {B H : Hp} {l : Addr} {xs : List V} (m : Mu B H l xs) : SqL K H l xs := SqL.of m.h
/-- it is frozen from here on -/
theorem Mu.frz {M : List Addr} {B H : Hp} {l : Addr} {xs : List V} (m : Mu B H l xs) (e : Ex B H) : Ex B (upd B l (.lst xs)) ∧ Ex (upd B l (.lst xs)) H ∧ upd B l (.lst xs) l = some (.lst xs) :=
  ⟨Ex.new m.b, fun a u q => by
    by_cases z : a = l
    · subst z; rw [upd_same] at q; cases q; exact m.h
    · rw [upd_ne z] at q; exact e a u q, upd_same⟩

/-! ### short readings -/
section
variable {K : PySem.W.Frag} {σ : L2.St} {B H : Hp} {Q : VK} {R : Bool → Hp → Prop} {ta tb te tx : TE} {x y z v : V} {r : R2} {t u : TT}
theorem sx_var {i : Nat} (h : σ[i]? = some (some v)) (q : Q v H) : tVar i σ H Q := ⟨v, h, q⟩
theorem sx_c (q : Q v H) : tC v σ H Q := q
theorem sx_op (q : ta σ H fun x H1 => tb σ H1 fun y H2 => r x y H2 Q) : tOp r ta tb σ H Q := q
theorem sx_un {r : V → Hp → VK → Prop} (q : ta σ H fun x H1 => r x H1 Q) : tUn r ta σ H Q := q
theorem sx_I0 {g : Int → Int → V} {i j : Int} (q : Q (g i j) H) : rI0 g (.int i) (.int j) H Q := ⟨i, j, rfl, rfl, q⟩
theorem sx_I {C : Int → Int → Prop} {g : Int → Int → V} {i j : Int} (c : C i j) (q : Q (g i j) H) : rI C g (.int i) (.int j) H Q := ⟨i, j, rfl, rfl, c, q⟩
theorem sx_U {g : Int → V} {i : Int} (q : Q (g i) H) : rU g (.int i) H Q := ⟨i, rfl, q⟩
theorem sx_eq (h : scal x y = true) (q : Q (.bl (decide (x = y))) H) : rEq x y H Q := ⟨h, q⟩
theorem sx_ne (h : scal x y = true) (q : Q (.bl (!decide (x = y))) H) : rNe x y H Q := ⟨h, q⟩
theorem sx_isBV {b : Bool} (q : Q (.bl (decide (x = .bl b))) H) : rIsBV x (.bl b) H Q := ⟨b, rfl, q⟩
theorem sx_test (q : te σ H fun x H' => ∃ k, x = .bl k ∧ R k H') : tTest te σ H R := q
theorem sx_tB (q : te σ H fun x H' => ∃ k, x = .bl k ∧ R k H') : tB te σ H R := q
theorem sx_isB {b : Bool} {P : Bool → Prop} (q : P b) : ∃ c, V.bl b = .bl c ∧ P c := ⟨b, rfl, q⟩
theorem sx_bl {b : Bool} (q : R b H) : ∃ k, V.bl b = .bl k ∧ R k H := ⟨b, rfl, q⟩
theorem sx_not (q : t σ H fun c H1 => R (!c) H1) : tNot t σ H R := q
theorem sx_and (q : t σ H fun c H1 => if c = true then u σ H1 R else R false H1) : tAnd t u σ H R := q
theorem sx_or (q : t σ H fun c H1 => if c = true then R true H1 else u σ H1 R) : tOr t u σ H R := q
theorem sx_andV (q : ta σ H fun x H1 => ∃ c, x = .bl c ∧ if c = true then tb σ H1 Q else Q (.bl false) H1) : tAndV ta tb σ H Q := q
theorem sx_orV (q : ta σ H fun x H1 => ∃ c, x = .bl c ∧ if c = true then Q (.bl true) H1 else tb σ H1 Q) : tOrV ta tb σ H Q := q
theorem sx_notV (q : ta σ H fun x H1 => ∃ c, x = .bl c ∧ Q (.bl (!c)) H1) : tNotV ta σ H Q := q
theorem sx_bl2 {b : Bool} {P1 P2 : Prop} (q : if b = true then P1 else P2) : ∃ c, V.bl b = .bl c ∧ if c = true then P1 else P2 := ⟨b, rfl, q⟩
theorem sx_if (q : t σ H fun c H1 => if c = true then ta σ H1 Q else tb σ H1 Q) : tIf t ta tb σ H Q := q
theorem sx_nil {Q : List V → Hp → Prop} (q : Q [] H) : tNil σ H Q := q
theorem sx_cons {tr : TA} {Q : List V → Hp → Prop} (q : ta σ H fun x H1 => tr σ H1 fun xs H2 => Q (x :: xs) H2) : tCons ta tr σ H Q := q
theorem sx_cb {r : List V → Hp → VK → Prop} {t : TA} (q : t σ H fun vs H1 => r vs H1 Q) : tCB r t σ H Q := q
theorem sx_call {sp : Sp} {t : TA} {dvs : List V} {E : XK} (q : t σ H fun vs H1 => sp (vs ++ dvs) H1 Q E) : tCall sp dvs E t σ H Q := q
theorem sx_ixL {p : Addr} {xs : List V} {i : Int} (h : SqL K H p xs) (ha : atI xs i = some v) (q : Q v H) : rIxL K (.ref p) (.int i) H Q := ⟨p, xs, i, v, rfl, rfl, h, ha, q⟩
theorem sx_ixT {p : Addr} {xs : List V} {i : Int} (h : SqT K H p xs) (ha : atI xs i = some v) (q : Q v H) : rIxT K (.ref p) (.int i) H Q := ⟨p, xs, i, v, rfl, rfl, h, ha, q⟩
/-! statements -/
variable {D : Ends} {g : TG} {ts tu : TS}
theorem sx_seq (q : ts { D with nx := tu D } σ H) : tSeq ts tu D σ H := q
theorem sx_next (q : D.nx σ H) : tNext D σ H := q
theorem sx_asg (q : te σ H fun x H1 => g x σ H1 D.nx) : tAsg te g D σ H := q
theorem sx_gname {i : Nat} {Q : L2.St → Hp → Prop} (q : Q (σ.set i (some v)) H) : gName i v σ H Q := q
theorem sx_drop (q : te σ H fun _ H1 => D.nx σ H1) : tDrop te D σ H := q
theorem sx_ret (q : te σ H D.rt) : tRet te D σ H := q
theorem sx_retN (q : D.rt .non H) : tRetN D σ H := q
theorem sx_ifS (q : t σ H fun b H1 => if b = true then ts D σ H1 else tu D σ H1) : tIfS t ts tu D σ H := q
theorem sx_par {i j : Nat} {ta : TA} (q : ta σ H fun vs H1 => ∃ v w, vs = [v, w] ∧ D.nx ((σ.set i (some v)).set j (some w)) H1) : tPar i j ta D σ H := q
theorem sx_par2 {Q : V → V → Prop} (q : Q x y) : ∃ v w, [x, y] = [v, w] ∧ Q v w := ⟨x, y, rfl, q⟩
theorem sx_bm0 {T : String} {r : V → List V → Hp → VK → Prop} (q : te σ H fun x H1 => tyV K T x H1 ∧ r x [] H1 Q) : tBM0 K T r te σ H Q := q
theorem sx_bm {T : String} {r : V → List V → Hp → VK → Prop} {ta : TA} (q : te σ H fun x H1 => tyV K T x H1 ∧ ta σ H1 fun xs H2 => r x xs H2 Q) : tBM K T r te ta σ H Q := q
theorem sx_tyL {p : Addr} {xs : List V} {A : Prop} (h : SqL K H p xs) (q : A) : tyV K "list" (.ref p) H ∧ A := ⟨.inl ⟨rfl, _, h⟩, q⟩
theorem sx_gsub {to ti : TE} {t : TSet} {Q : L2.St → Hp → Prop} (q : to σ H fun o H1 => ti σ H1 fun i H2 => t o i v H2 fun H3 => Q σ H3) : gSub to ti t v σ H Q := q
theorem sx_GT {xs : List V} (q : ∀ a, (∀ H', SqT K H' a xs) → Q (.ref a) H) : tGT K xs σ H Q := q
/-- a display -/
def rNewT (xs : List V) (H : Hp) (Q : VK) : Prop := xs.length ≤ sizeLine ∧ ∀ p, H p = none → Q (.ref p) (upd H p (.tup xs))
def rNewL (xs : List V) (H : Hp) (Q : VK) : Prop := xs.length ≤ sizeLine ∧ ∀ p, H p = none → Q (.ref p) (upd H p (.lst xs))
theorem sx_tup {ta : TA} (q : ta σ H fun xs H1 => rNewT xs H1 Q) : tTup ta σ H Q := q
theorem sx_lst {ta : TA} (q : ta σ H fun xs H1 => rNewL xs H1 Q) : tLst ta σ H Q := q
theorem sz_of {n : Nat} (h : n ≤ 100000) : n ≤ sizeLine := Nat.le_trans h (by decide)
theorem sz_lt {n : Nat} (h : n < 100000) : n < sizeLine := Nat.lt_of_lt_of_le h (by decide)
/-- a new tuple of data -/
theorem sx_newT {xs : List V} {ds : List PyData} (e : Ex B H) (hd : DpAll K B xs ds) (hz : ds.length ≤ 100000) (q : ∀ p B' H', H p = none → Nx [] B H B' H' → Dp K B' (.ref p) (.tuple ds) → Q (.ref p) H') : rNewT xs H Q :=
  ⟨sz_of (by rw [Dps.len hd]; exact hz), fun p hp => q p (upd B p (.tup xs)) _ hp (Nx.new e hp) (.tup (SqT.of upd_same) (Dps.up (Ex.new (e.free hp)) hd))⟩
/-- a new list that may change -/
theorem sx_newM {xs : List V} (e : Ex B H) (hz : xs.length ≤ 100000) (q : ∀ p H', H p = none → Nx [] B H B H' → Mu B H' p xs → Q (.ref p) H') : rNewL xs H Q :=
  ⟨sz_of hz, fun p hp => q p _ hp (Nx.own e hp) (Mu.new e hp)⟩
/-- a new list of data that won't change -/
theorem sx_newL {xs : List V} {ds : List PyData} (e : Ex B H) (hd : DpAll K B xs ds) (hz : ds.length ≤ 100000) (q : ∀ p B' H', H p = none → Nx [] B H B' H' → Dp K B' (.ref p) (.list ds) → Q (.ref p) H') : rNewL xs H Q :=
  ⟨sz_of (by rw [Dps.len hd]; exact hz), fun p hp => q p (upd B p (.lst xs)) _ hp (Nx.new e hp) (.lst (SqL.of upd_same) (Dps.up (Ex.new (e.free hp)) hd))⟩
theorem sx_append {l : Addr} {xs : List V} (m : Mu B H l xs) (e : Ex B H) (hz : xs.length < 100000) (q : ∀ H', Nx [l] B H B H' → Mu B H' l (xs ++ [y]) → Q .non H') : rAppend (.ref l) [y] H Q :=
  ⟨l, xs, y, rfl, rfl, m.h, sz_lt hz, q _ (m.put e) m.set⟩
theorem sx_pop {l : Addr} {xs : List V} (m : Mu B H l (xs ++ [y])) (e : Ex B H) (q : ∀ H', Nx [l] B H B H' → Mu B H' l xs → Q y H') : rPop (.ref l) [] H Q := by
  refine ⟨l, xs ++ [y], y, rfl, rfl, m.h, by simp, ?_⟩
  have h := q (upd H l (.lst xs)) (m.put e) m.set
  rwa [List.dropLast_concat]
theorem sx_popAt {l : Addr} {xs : List V} {i : Nat} (m : Mu B H l xs) (e : Ex B H) (hi : xs[i]? = some y) (hz : xs.length ≤ 100000) (q : ∀ H', Nx [l] B H B H' → Mu B H' l (xs.eraseIdx i) → Q y H') : rPopAt (.ref l) [.int (i : Int)] H Q := by
  have h1 := (List.getElem?_eq_some_iff.mp hi).1
  refine ⟨l, xs, (i : Int), i, y, rfl, rfl, m.h, by omega, by omega, ?_, hi, q _ (m.put e) m.set⟩
  have h2 : ¬ ((i : Int) < 0) := by omega
  have h3 : (decide (0 ≤ (i : Int)) && decide ((i : Int) < (xs.length : Int))) = true := by
    rw [decide_eq_true (by omega : (0 : Int) ≤ (i : Int)), decide_eq_true (by omega : (i : Int) < (xs.length : Int))]; rfl
  simp only [seqIndex?, if_neg h2, h3, if_true, Int.toNat_natCast]
theorem sx_setL {l : Addr} {xs : List V} {j : Nat} {k : Int} {Q : Hp → Prop} (m : Mu B H l xs) (e : Ex B H) (hj : ixN xs.length k = some j) (q : ∀ H', Nx [l] B H B H' → Mu B H' l (xs.set j v) → Q H') : rSetL (.ref l) (.int k) v H Q :=
  ⟨l, xs, k, j, rfl, rfl, m.h, hj, q _ (m.put e) m.set⟩
/-- data -/
theorem sx_ixTd {ds : List PyData} {i : Int} {d : PyData} (h : Dp K B x (.tuple ds)) (e : Ex B H) (ha : atI ds i = some d) (q : ∀ v, Dp K B v d → Q v H) : rIxT K x (.int i) H Q := by
  obtain ⟨a, xs, rfl, hs, hd⟩ := Dp.tup_v h
  unfold atI at ha
  cases hj : ixN ds.length i with
  | none => rw [hj] at ha; cases ha
  | some j =>
    rw [hj] at ha
    obtain ⟨v, h1, h2⟩ := Dps.get hd (show ds[j]? = some d from ha)
    refine ⟨a, xs, i, v, rfl, rfl, e.t hs, ?_, q v h2⟩
    unfold atI
    rw [Dps.len hd, hj]
    exact h1
theorem sx_ixLd {ds : List PyData} {i : Int} {d : PyData} (h : Dp K B x (.list ds)) (e : Ex B H) (ha : atI ds i = some d) (q : ∀ v, Dp K B v d → Q v H) : rIxL K x (.int i) H Q := by
  obtain ⟨a, xs, rfl, hs, hd⟩ := Dp.lst_v h
  unfold atI at ha
  cases hj : ixN ds.length i with
  | none => rw [hj] at ha; cases ha
  | some j =>
    rw [hj] at ha
    obtain ⟨v, h1, h2⟩ := Dps.get hd (show ds[j]? = some d from ha)
    refine ⟨a, xs, i, v, rfl, rfl, e.l hs, ?_, q v h2⟩
    unfold atI
    rw [Dps.len hd, hj]
    exact h1
end

/-! ### built-ins, by name -/
section
variable {X : Cx} {K : PySem.W.Frag} {σ : L2.St} {B H : Hp} {Q : VK} {x y v : V}
def rLen (K : PySem.W.Frag) : List V → Hp → VK → Prop := fun xs H Q => ∃ p ys, xs = [.ref p] ∧ (SqL K H p ys ∨ SqT K H p ys) ∧ Q (.int ys.length) H
theorem cl_len : CallR X (.builtin "len") (rLen X.K) := call_len_seq
theorem sx_lenL {p : Addr} {ys : List V} (h : SqL K H p ys) (q : Q (.int ys.length) H) : rLen K [.ref p] H Q := ⟨p, ys, rfl, .inl h, q⟩
theorem sx_lenT {p : Addr} {ys : List V} (h : SqT K H p ys) (q : Q (.int ys.length) H) : rLen K [.ref p] H Q := ⟨p, ys, rfl, .inr h, q⟩
theorem sx_lenTd {ds : List PyData} (h : Dp K B x (.tuple ds)) (e : Ex B H) (q : Q (.int ds.length) H) : rLen K [x] H Q := by
  obtain ⟨a, xs, rfl, hs, hd⟩ := Dp.tup_v h
  exact ⟨a, xs, rfl, .inr (e.t hs), by rw [Dps.len hd]; exact q⟩
theorem sx_lenLd {ds : List PyData} (h : Dp K B x (.list ds)) (e : Ex B H) (q : Q (.int ds.length) H) : rLen K [x] H Q := by
  obtain ⟨a, xs, rfl, hs, hd⟩ := Dp.lst_v h
  exact ⟨a, xs, rfl, .inl (e.l hs), by rw [Dps.len hd]; exact q⟩
def rInt : List V → Hp → VK → Prop := fun xs H Q => (∃ i, xs = [.int i] ∧ Q (.int i) H) ∨ ∃ k, xs = [.bl k] ∧ Q (.int (if k then 1 else 0)) H
theorem cl_int : CallR X (.type "int") rInt := call_int1
theorem sx_int {i : Int} (q : Q (.int i) H) : rInt [.int i] H Q := .inl ⟨i, rfl, q⟩
def rAbs : List V → Hp → VK → Prop := fun xs H Q => ∃ i, xs = [.int i] ∧ Q (.int (if i < 0 then -i else i)) H
theorem cl_abs : CallR X (.builtin "abs") rAbs := call_abs
theorem sx_abs {i : Int} (q : Q (.int (if i < 0 then -i else i)) H) : rAbs [.int i] H Q := ⟨i, rfl, q⟩
def rMin : List V → Hp → VK → Prop := fun xs H Q => ∃ i j, xs = [.int i, .int j] ∧ Q (.int (if j < i then j else i)) H
theorem cl_min (hc : X.calm = true) : CallR X (.builtin "min") rMin := call_min2 hc
theorem sx_min {i j : Int} (q : Q (.int (if j < i then j else i)) H) : rMin [.int i, .int j] H Q := ⟨i, j, rfl, q⟩
def rMax : List V → Hp → VK → Prop := fun xs H Q => ∃ i j, xs = [.int i, .int j] ∧ Q (.int (if j > i then j else i)) H
theorem cl_max (hc : X.calm = true) : CallR X (.builtin "max") rMax := call_max2 hc
theorem sx_max {i j : Int} (q : Q (.int (if j > i then j else i)) H) : rMax [.int i, .int j] H Q := ⟨i, j, rfl, q⟩
def rListOf (K : PySem.W.Frag) : List V → Hp → VK → Prop := fun xs H Q => ∃ p ys, xs = [.ref p] ∧ (SqL K H p ys ∨ SqT K H p ys) ∧ ∀ l, H l = none → Q (.ref l) (upd H l (.lst ys))
theorem cl_list : CallR X (.type "list") (rListOf X.K) := call_list_of
theorem sx_listOf {p : Addr} {ys : List V} (e : Ex B H) (h : SqL K H p ys ∨ SqT K H p ys) (q : ∀ l H', H l = none → Nx [] B H B H' → Mu B H' l ys → Q (.ref l) H') : rListOf K [.ref p] H Q := ⟨p, ys, rfl, h, fun l hl => q l _ hl (Nx.own e hl) (Mu.new e hl)⟩
def rTupOf (K : PySem.W.Frag) : List V → Hp → VK → Prop := fun xs H Q => ∃ p ys, xs = [.ref p] ∧ ((SqL K H p ys ∧ ∀ l, H l = none → Q (.ref l) (upd H l (.tup ys))) ∨ (SqT K H p ys ∧ Q (.ref p) H))
theorem cl_tuple : CallR X (.type "tuple") (rTupOf X.K) := call_tuple_of
theorem sx_tupOfL {p : Addr} {ys : List V} {ds : List PyData} (e : Ex B H) (h : SqL K H p ys) (hd : DpAll K B ys ds) (q : ∀ l B' H', H l = none → Nx [] B H B' H' → Dp K B' (.ref l) (.tuple ds) → Q (.ref l) H') : rTupOf K [.ref p] H Q :=
  ⟨p, ys, rfl, .inl ⟨h, fun l hl => q l (upd B l (.tup ys)) _ hl (Nx.new e hl) (.tup (SqT.of upd_same) (Dps.up (Ex.new (e.free hl)) hd))⟩⟩
theorem sx_tupOfT {p : Addr} {ys : List V} (h : SqT K H p ys) (q : Q (.ref p) H) : rTupOf K [.ref p] H Q := ⟨p, ys, rfl, .inr ⟨h, q⟩⟩
/-- isinstance of data by one class -/
theorem sx_isi {d : PyData} {n : String} {b : Bool} (h : Dp K B x d) (e : Ex B H) (k : kitB (tyD d) n = some b) (q : Q (.bl b) H) : rIsi K [x, .ty n] H Q := ⟨x, .ty n, .type (tyD d), .type n, b, rfl, .ty n, Dp.ty h e, kit_ty k, q⟩
def rAddS : R2 := fun x y H Q => ∃ i j, x = .str i ∧ y = .str j ∧ i.length + j.length ≤ sizeLine ∧ Q (.str (i ++ j)) H
theorem op_addS : OpR X (binaryOp .Add) rAddS := op_add_str
theorem sx_addS {i j : Str} (h : i.length + j.length ≤ 100000) (q : Q (.str (i ++ j)) H) : rAddS (.str i) (.str j) H Q := ⟨i, j, rfl, rfl, sz_of h, q⟩
def rIsN : R2 := fun x y H Q => y = .non ∧ Q (.bl (decide (x = .non))) H
def rNotN : R2 := fun x y H Q => y = .non ∧ Q (.bl (!decide (x = .non))) H
theorem op_isN1 : OpR X (compareOp .Is) G.rIsN := op_isN
theorem op_notN1 : OpR X (compareOp .IsNot) G.rNotN := op_notN
theorem sx_isN (q : Q (.bl (decide (x = .non))) H) : G.rIsN x .non H Q := ⟨rfl, q⟩
theorem sx_notN (q : Q (.bl (!decide (x = .non))) H) : G.rNotN x .non H Q := ⟨rfl, q⟩
end

/-! ### a cut -/
section
variable {X : Cx}
def tCut (t u : TS) : TS := fun D σ H => ∃ Mid : L2.St → Hp → Prop, t { D with nx := Mid } σ H ∧ ∀ σ' H', Mid σ' H' → u D σ' H'
theorem pss_cut {st : Stmt} {rest : List Stmt} {t u : TS} (h1 : PS X st t) (h2 : PSs X rest u) : PSs X (st :: rest) (tCut t u) := by
  refine ⟨fun pins s σ H D I h => ?_⟩
  obtain ⟨Mid, hm, hu⟩ := h
  refine wpAny_execs_cons (thn (h1.run pins s σ H { D with nx := Mid } I hm) fun f s1 q => ?_)
  cases f with
  | next =>
    obtain ⟨σ', H', I', q⟩ := q
    exact h2.run pins s1 σ' H' D I' (hu σ' H' q)
  | ret v => exact q
  | brk => exact q
  | cont => exact q
theorem sx_cut {t u : TS} {D : Ends} {σ : L2.St} {H : Hp} (Mid : L2.St → Hp → Prop) (h : t { D with nx := Mid } σ H) (k : ∀ σ' H', Mid σ' H' → u D σ' H') : tCut t u D σ H := ⟨Mid, h, k⟩
end
/-! ### tests -/
theorem ifT {A B : Prop} {b : Bool} (e : b = true) (h : A) : if b = true then A else B := by rw [if_pos e]; exact h
theorem ifF {A B : Prop} {b : Bool} (e : b = false) (h : B) : if b = true then A else B := by rw [if_neg (by rw [e]; exact Bool.false_ne_true)]; exact h
theorem dT {p : Prop} [Decidable p] (h : p) : decide p = true := decide_eq_true h
theorem dF {p : Prop} [Decidable p] (h : ¬ p) : decide p = false := decide_eq_false h
theorem int_eqT {i j : Int} (h : i = j) : decide (V.int i = V.int j) = true := decide_eq_true (by rw [h])
theorem int_eqF {i j : Int} (h : i ≠ j) : decide (V.int i = V.int j) = false := decide_eq_false fun z => h (V.int.inj z)
theorem str_eqT {i j : Str} (h : i = j) : decide (V.str i = V.str j) = true := decide_eq_true (by rw [h])
theorem str_eqF {i j : Str} (h : i ≠ j) : decide (V.str i = V.str j) = false := decide_eq_false fun z => h (V.str.inj z)
theorem snoc_of {α : Type} {xs : List α} (h : xs ≠ []) : ∃ r z, xs = r ++ [z] := ⟨xs.dropLast, xs.getLast h, (List.dropLast_concat_getLast h).symm⟩
theorem atI_end {α : Type} {r : List α} {z : α} : atI (r ++ [z]) (-1) = some z := atI_last _ _
section
variable {H : Hp} {Q : VK} {i j : Int}
theorem sx_mod (h : 0 < j) (q : Q (.int (i % j)) H) : rI (fun _ j => 0 < j) (fun i j => .int (i % j)) (.int i) (.int j) H Q := ⟨i, j, rfl, rfl, h, q⟩
theorem sx_div (h : 0 < j) (h1 : j < 1073741824) (q : Q (.int (i / j)) H) : rI CDiv (fun i j => .int (i / j)) (.int i) (.int j) H Q := ⟨i, j, rfl, rfl, ⟨h, h1⟩, q⟩
/-- a product of numbers below 2 ^ 64 -/
theorem sx_mul64 (h : -(2 ^ 64) < i ∧ i < 2 ^ 64) (h1 : -(2 ^ 64) < j ∧ j < 2 ^ 64) (q : Q (.int (i * j)) H) : rI CMulW (fun i j => .int (i * j)) (.int i) (.int j) H Q :=
  ⟨i, j, rfl, rfl, wide_mul (a := 65) (b := 65) (by have : (2 : Nat) ^ 65 = 2 * 2 ^ 64 := by decide
                                                    omega) (by omega) (by decide) (by decide) (by decide), q⟩
theorem sx_mulW {a b : Nat} (ha : i.natAbs < 2 ^ a) (hb : j.natAbs < 2 ^ b) (h0 : 0 < a) (h1 : 0 < b) (h : a + b ≤ 1000000) (q : Q (.int (i * j)) H) : rI CMulW (fun i j => .int (i * j)) (.int i) (.int j) H Q := ⟨i, j, rfl, rfl, wide_mul ha hb h0 h1 h, q⟩
theorem sx_pow (h0 : 0 ≤ j) (h1 : j ≤ 1000000) (h2 : i.natAbs < 2 ^ 64) (q : Q (.int (i ^ j.toNat)) H) : rI CPow (fun i j => .int (i ^ j.toNat)) (.int i) (.int j) H Q := ⟨i, j, rfl, rfl, ⟨h0, h1, h2⟩, q⟩
end

/-! ### loops and comprehensions -/
section
variable {K : PySem.W.Frag} {σ : L2.St} {B H : Hp} {Q : VK} {tl te : TE} {g : TG} {tt : TT} {tb : TS} {vs : List Nat} {D : Ends} {ta : TA} {x : V}
/-- a comprehension over what the value x is (a list) -/
def rLcL (K : PySem.W.Frag) (g : TG) (tt : TT) (te : TE) (vs : List Nat) (σ : L2.St) (x : V) (H : Hp) (Q : VK) : Prop := ∃ a, x = .ref a ∧ (∃ xs, SqL K H a xs) ∧ ∀ D, H D = none → ∃ W : Nat → Nat → Hp → Prop, (∃ m, W 0 m (upd H D (.lst []))) ∧ ∀ i m H, W i m H →
  ((Itl K a).stop i H ∧ Q (.ref D) H) ∨ ((Itl K a).go i H ∧ ∃ Nx : Hp → Prop, (∀ H', Nx H' → ∃ m', m' < m ∧ W (i + 1) m' H') ∧ ∀ x H', (Itl K a).yld i H x H' → g x (wipe σ vs) H' fun σ2 H2 => wipe σ2 vs = wipe σ vs ∧ tt σ2 H2 fun b H3 =>
    if b = true then te σ2 H3 fun y H4 => ∃ acc, H4 D = some (.lst acc) ∧ acc.length < sizeLine ∧ Nx (upd H4 D (.lst (acc ++ [y]))) else Nx H3)
theorem sx_lcL (q : tl σ H fun x H1 => rLcL K g tt te vs σ x H1 Q) : tLc (iList K tl) g tt te vs σ H Q := q
def rLcT (K : PySem.W.Frag) (g : TG) (tt : TT) (te : TE) (vs : List Nat) (σ : L2.St) (x : V) (H : Hp) (Q : VK) : Prop := ∃ a, x = .ref a ∧ (∃ xs, SqT K H a xs) ∧ ∀ D, H D = none → ∃ W : Nat → Nat → Hp → Prop, (∃ m, W 0 m (upd H D (.lst []))) ∧ ∀ i m H, W i m H →
  ((Itt K a).stop i H ∧ Q (.ref D) H) ∨ ((Itt K a).go i H ∧ ∃ Nx : Hp → Prop, (∀ H', Nx H' → ∃ m', m' < m ∧ W (i + 1) m' H') ∧ ∀ x H', (Itt K a).yld i H x H' → g x (wipe σ vs) H' fun σ2 H2 => wipe σ2 vs = wipe σ vs ∧ tt σ2 H2 fun b H3 =>
    if b = true then te σ2 H3 fun y H4 => ∃ acc, H4 D = some (.lst acc) ∧ acc.length < sizeLine ∧ Nx (upd H4 D (.lst (acc ++ [y]))) else Nx H3)
theorem sx_lcT (q : tl σ H fun x H1 => rLcT K g tt te vs σ x H1 Q) : tLc (iTup K tl) g tt te vs σ H Q := q
def rLcR (g : TG) (tt : TT) (te : TE) (vs : List Nat) (σ : L2.St) (us : List V) (H : Hp) (Q : VK) : Prop := ∃ j : Int, us = [.int j] ∧ -(2 ^ 62) ≤ j ∧ j < 2 ^ 62 ∧ ∀ D, H D = none → ∃ W : Nat → Nat → Hp → Prop, (∃ m, W 0 m (upd H D (.lst []))) ∧ ∀ i m H, W i m H →
  ((Itr 0 j.toNat).stop i H ∧ Q (.ref D) H) ∨ ((Itr 0 j.toNat).go i H ∧ ∃ Nx : Hp → Prop, (∀ H', Nx H' → ∃ m', m' < m ∧ W (i + 1) m' H') ∧ ∀ x H', (Itr 0 j.toNat).yld i H x H' → g x (wipe σ vs) H' fun σ2 H2 => wipe σ2 vs = wipe σ vs ∧ tt σ2 H2 fun b H3 =>
    if b = true then te σ2 H3 fun y H4 => ∃ acc, H4 D = some (.lst acc) ∧ acc.length < sizeLine ∧ Nx (upd H4 D (.lst (acc ++ [y]))) else Nx H3)
theorem sx_lcR (q : ta σ H fun us H1 => rLcR g tt te vs σ us H1 Q) : tLc (iRng1 ta) g tt te vs σ H Q := q
/-- the list grows -/
theorem sx_lcEnd {L : Addr} {acc : List V} {y : V} {P : Hp → Prop} (m : Mu B H L acc) (e : Ex B H) (hz : acc.length < 100000) (q : ∀ H', Nx [L] B H B H' → Mu B H' L (acc ++ [y]) → P H') : ∃ acc, H L = some (.lst acc) ∧ acc.length < sizeLine ∧ P (upd H L (.lst (acc ++ [y]))) :=
  ⟨acc, m.h, sz_lt hz, q _ (m.put e) m.set⟩
/-- one that makes values of values -/
theorem sx_lcPure {a : Addr} {xs : List V} {j : Nat} (f : V → Bool) (h : V → V) (e : Ex B H) (hx : SqL K H a xs) (hz : xs.length ≤ 100000) (hw : ∀ x, wipe ((wipe σ vs).set j (some x)) vs = wipe σ vs)
    (ht : ∀ x ∈ xs, ∀ H1 (R : Bool → Hp → Prop), Ex H H1 → R (f x) H1 → tt ((wipe σ vs).set j (some x)) H1 R)
    (he : ∀ x ∈ xs, f x = true → ∀ H1 (R : VK), Ex H H1 → R (h x) H1 → te ((wipe σ vs).set j (some x)) H1 R)
    (q : ∀ p H', H p = none → Nx [] B H B H' → Mu B H' p ((xs.filter f).map h) → Q (.ref p) H') : rLcL K (gName j) tt te vs σ (.ref a) H Q := by
  refine ⟨a, rfl, ⟨xs, hx⟩, fun L hL => lc_list (xs := xs) (fun i H' => Nx [] B H B H' ∧ Mu B H' L (((xs.take i).filter f).map h)) ⟨Nx.own e hL, by simpa using Mu.new e hL⟩ (fun i H' _ p => p.1.ex.l hx) (fun i x H' hi p => ?_) (fun H' p => q L H' hL p.1 (by simpa using p.2))⟩
  have hm : x ∈ xs := List.mem_of_getElem? hi
  have hlen : (((xs.take i).filter f).map h).length ≤ 100000 := by
    rw [List.length_map]
    exact Nat.le_trans (List.length_filter_le _ _) (Nat.le_trans (by rw [List.length_take]; exact Nat.min_le_right _ _) hz)
  have hi' := (List.getElem?_eq_some_iff.mp hi).1
  have hlen2 : (((xs.take i).filter f).map h).length < 100000 := by
    rw [List.length_map]
    exact Nat.lt_of_le_of_lt (List.length_filter_le _ _) (by rw [List.length_take]; omega)
  show wipe ((wipe σ vs).set j (some x)) vs = wipe σ vs ∧ _
  refine ⟨hw x, ?_⟩
  refine ht x hm H' _ p.1.ex ?_
  have htake : xs.take (i + 1) = xs.take i ++ [x] := by rw [List.take_add_one, hi]; rfl
  cases hf : f x with
  | true =>
    refine iteT ?_
    refine he x hm hf H' _ p.1.ex ?_
    have n2 := p.2.put (ys := ((xs.take i).filter f).map h ++ [h x]) p.1.h
    have m2 := p.2.set (ys := ((xs.take i).filter f).map h ++ [h x])
    refine ⟨_, p.2.h, sz_lt hlen2, ?_, ?_⟩
    · exact ⟨Ex.refl _, n2.h, fun b o hb _ => by
        by_cases z : b = L
        · subst z; rw [hL] at hb; cases hb
        · exact n2.k b o (p.1.k b o hb (by simp)) (by simp [z]), fun b hb _ => hb⟩
    · rw [htake, List.filter_append, List.filter_cons, if_pos hf, List.map_append]
      exact m2
  | false =>
    refine iteF ⟨p.1, ?_⟩
    rw [htake, List.filter_append, List.filter_cons, if_neg (by rw [hf]; exact Bool.false_ne_true), List.filter_nil, List.append_nil]
    exact p.2
/-- a for over what the value x is -/
def rForL (K : PySem.W.Frag) (g : TG) (tb : TS) (D : Ends) (σ : L2.St) (x : V) (H : Hp) : Prop := ∃ a, x = .ref a ∧ (∃ xs, SqL K H a xs) ∧ ∃ W : Nat → Nat → L2.St → Hp → Prop, (∃ m, W 0 m σ H) ∧ ∀ i m σ H, W i m σ H →
  ((Itl K a).stop i H ∧ D.nx σ H) ∨ ((Itl K a).go i H ∧ ∃ N : L2.St → Hp → Prop, (∀ σ' H', N σ' H' → ∃ m', m' < m ∧ W (i + 1) m' σ' H') ∧ ∀ x H', (Itl K a).yld i H x H' → g x σ H' fun σ2 H2 => tb { D with nx := N, ct := N, bk := D.nx } σ2 H2)
theorem sx_forL (q : tl σ H fun x H1 => rForL K g tb D σ x H1) : tFor (iList K tl) g tb D σ H := q
def rForT (K : PySem.W.Frag) (g : TG) (tb : TS) (D : Ends) (σ : L2.St) (x : V) (H : Hp) : Prop := ∃ a, x = .ref a ∧ (∃ xs, SqT K H a xs) ∧ ∃ W : Nat → Nat → L2.St → Hp → Prop, (∃ m, W 0 m σ H) ∧ ∀ i m σ H, W i m σ H →
  ((Itt K a).stop i H ∧ D.nx σ H) ∨ ((Itt K a).go i H ∧ ∃ N : L2.St → Hp → Prop, (∀ σ' H', N σ' H' → ∃ m', m' < m ∧ W (i + 1) m' σ' H') ∧ ∀ x H', (Itt K a).yld i H x H' → g x σ H' fun σ2 H2 => tb { D with nx := N, ct := N, bk := D.nx } σ2 H2)
theorem sx_forT (q : tl σ H fun x H1 => rForT K g tb D σ x H1) : tFor (iTup K tl) g tb D σ H := q
def rForR (g : TG) (tb : TS) (D : Ends) (σ : L2.St) (us : List V) (H : Hp) : Prop := ∃ j : Int, us = [.int j] ∧ -(2 ^ 62) ≤ j ∧ j < 2 ^ 62 ∧ ∃ W : Nat → Nat → L2.St → Hp → Prop, (∃ m, W 0 m σ H) ∧ ∀ i m σ H, W i m σ H →
  ((Itr 0 j.toNat).stop i H ∧ D.nx σ H) ∨ ((Itr 0 j.toNat).go i H ∧ ∃ N : L2.St → Hp → Prop, (∀ σ' H', N σ' H' → ∃ m', m' < m ∧ W (i + 1) m' σ' H') ∧ ∀ x H', (Itr 0 j.toNat).yld i H x H' → g x σ H' fun σ2 H2 => tb { D with nx := N, ct := N, bk := D.nx } σ2 H2)
theorem sx_forR (q : ta σ H fun us H1 => rForR g tb D σ us H1) : tFor (iRng1 ta) g tb D σ H := q
def rForR2 (g : TG) (tb : TS) (D : Ends) (σ : L2.St) (us : List V) (H : Hp) : Prop := ∃ i j : Int, us = [.int i, .int j] ∧ (-(2 ^ 62) ≤ i ∧ i < 2 ^ 62 ∧ -(2 ^ 62) ≤ j ∧ j < 2 ^ 62) ∧ ∃ W : Nat → Nat → L2.St → Hp → Prop, (∃ m, W 0 m σ H) ∧ ∀ n m σ H, W n m σ H →
  ((Itr i (j - i).toNat).stop n H ∧ D.nx σ H) ∨ ((Itr i (j - i).toNat).go n H ∧ ∃ N : L2.St → Hp → Prop, (∀ σ' H', N σ' H' → ∃ m', m' < m ∧ W (n + 1) m' σ' H') ∧ ∀ x H', (Itr i (j - i).toNat).yld n H x H' → g x σ H' fun σ2 H2 => tb { D with nx := N, ct := N, bk := D.nx } σ2 H2)
theorem sx_forR2 (q : ta σ H fun us H1 => rForR2 g tb D σ us H1) : tFor (iRng2 ta) g tb D σ H := q
/-- by an invariant -/
theorem sx_forL_by {a : Addr} {xs : List V} (hx : SqL K H a xs) (Pv : Nat → L2.St → Hp → Prop) (h0 : Pv 0 σ H) (hl : ∀ i σ H, i ≤ xs.length → Pv i σ H → SqL K H a xs)
    (hs : ∀ i x σ H, xs[i]? = some x → Pv i σ H → g x σ H fun σ2 H2 => tb { D with nx := Pv (i + 1), ct := Pv (i + 1), bk := D.nx } σ2 H2) (hd : ∀ σ H, Pv xs.length σ H → D.nx σ H) : rForL K g tb D σ (.ref a) H :=
  ⟨a, rfl, ⟨xs, hx⟩, for_list (xs := xs) Pv h0 hl hs hd⟩
theorem sx_forT_by {a : Addr} {xs : List V} (hx : SqT K H a xs) (Pv : Nat → L2.St → Hp → Prop) (h0 : Pv 0 σ H) (hl : ∀ i σ H, i ≤ xs.length → Pv i σ H → SqT K H a xs)
    (hs : ∀ i x σ H, xs[i]? = some x → Pv i σ H → g x σ H fun σ2 H2 => tb { D with nx := Pv (i + 1), ct := Pv (i + 1), bk := D.nx } σ2 H2) (hd : ∀ σ H, Pv xs.length σ H → D.nx σ H) : rForT K g tb D σ (.ref a) H :=
  ⟨a, rfl, ⟨xs, hx⟩, for_tup (xs := xs) Pv h0 hl hs hd⟩
theorem sx_forR_by {n : Nat} (hn : n ≤ 1000000) (Pv : Nat → L2.St → Hp → Prop) (h0 : Pv 0 σ H)
    (hs : ∀ i σ H, i < n → Pv i σ H → g (.int (i : Int)) σ H fun σ2 H2 => tb { D with nx := Pv (i + 1), ct := Pv (i + 1), bk := D.nx } σ2 H2) (hd : ∀ σ H, Pv n σ H → D.nx σ H) : rForR g tb D σ [.int (n : Int)] H :=
  ⟨(n : Int), rfl, by omega, by omega, for_range (lo := 0) (n := (n : Int).toNat) Pv h0 (fun i σ H hi p => by rw [Int.zero_add]; exact hs i σ H (by simpa using hi) p) (fun σ H p => hd σ H (by simpa using p))⟩
theorem sx_forR2_by {lo n : Nat} (hl : lo ≤ 1000000) (hn : n ≤ 1000000) (Pv : Nat → L2.St → Hp → Prop) (h0 : Pv 0 σ H)
    (hs : ∀ i σ H, lo + i < n → Pv i σ H → g (.int ((lo + i : Nat) : Int)) σ H fun σ2 H2 => tb { D with nx := Pv (i + 1), ct := Pv (i + 1), bk := D.nx } σ2 H2) (hd : ∀ σ H, Pv (n - lo) σ H → D.nx σ H) : rForR2 g tb D σ [.int (lo : Int), .int (n : Int)] H :=
  ⟨(lo : Int), (n : Int), rfl, by omega, for_range (lo := (lo : Int)) (n := ((n : Int) - (lo : Int)).toNat) Pv h0 (fun i σ H hi p => by rw [← Int.natCast_add]; exact hs i σ H (by omega) p) (fun σ H p => hd σ H (by rw [show n - lo = ((n : Int) - (lo : Int)).toNat by omega]; exact p))⟩
theorem sx_lcR_by {n : Nat} (hn : n ≤ 100000) (Pv : Addr → Nat → Hp → Prop) (h0 : ∀ L, H L = none → Pv L 0 (upd H L (.lst [])))
    (hs : ∀ L i H, i < n → Pv L i H → g (.int (i : Int)) (wipe σ vs) H fun σ2 H2 => wipe σ2 vs = wipe σ vs ∧ tt σ2 H2 fun b H3 =>
      if b = true then te σ2 H3 fun y H4 => ∃ acc, H4 L = some (.lst acc) ∧ acc.length < sizeLine ∧ Pv L (i + 1) (upd H4 L (.lst (acc ++ [y]))) else Pv L (i + 1) H3) (hd : ∀ L H, Pv L n H → Q (.ref L) H) : rLcR g tt te vs σ [.int (n : Int)] H Q :=
  ⟨(n : Int), rfl, by omega, by omega, fun L hL => lc_range (lo := 0) (n := (n : Int).toNat) (Pv L) (h0 L hL) (fun i H hi p => by rw [Int.zero_add]; exact hs L i H (by simpa using hi) p) (fun H p => hd L H (by simpa using p))⟩
theorem sx_lcL_by {a : Addr} {xs : List V} (hx : SqL K H a xs) (Pv : Addr → Nat → Hp → Prop) (h0 : ∀ L, H L = none → Pv L 0 (upd H L (.lst []))) (hl : ∀ L i H, i ≤ xs.length → Pv L i H → SqL K H a xs)
    (hs : ∀ L i x H, xs[i]? = some x → Pv L i H → g x (wipe σ vs) H fun σ2 H2 => wipe σ2 vs = wipe σ vs ∧ tt σ2 H2 fun b H3 =>
      if b = true then te σ2 H3 fun y H4 => ∃ acc, H4 L = some (.lst acc) ∧ acc.length < sizeLine ∧ Pv L (i + 1) (upd H4 L (.lst (acc ++ [y]))) else Pv L (i + 1) H3) (hd : ∀ L H, Pv L xs.length H → Q (.ref L) H) : rLcL K g tt te vs σ (.ref a) H Q :=
  ⟨a, rfl, ⟨xs, hx⟩, fun L hL => lc_list (xs := xs) (Pv L) (h0 L hL) (hl L) (hs L) (hd L)⟩
theorem sx_lcT_by {a : Addr} {xs : List V} (hx : SqT K H a xs) (Pv : Addr → Nat → Hp → Prop) (h0 : ∀ L, H L = none → Pv L 0 (upd H L (.lst []))) (hl : ∀ L i H, i ≤ xs.length → Pv L i H → SqT K H a xs)
    (hs : ∀ L i x H, xs[i]? = some x → Pv L i H → g x (wipe σ vs) H fun σ2 H2 => wipe σ2 vs = wipe σ vs ∧ tt σ2 H2 fun b H3 =>
      if b = true then te σ2 H3 fun y H4 => ∃ acc, H4 L = some (.lst acc) ∧ acc.length < sizeLine ∧ Pv L (i + 1) (upd H4 L (.lst (acc ++ [y]))) else Pv L (i + 1) H3) (hd : ∀ L H, Pv L xs.length H → Q (.ref L) H) : rLcT K g tt te vs σ (.ref a) H Q :=
  ⟨a, rfl, ⟨xs, hx⟩, fun L hL => lc_tup (xs := xs) (Pv L) (h0 L hL) (hl L) (hs L) (hd L)⟩
/-- slices -/
theorem sx_sl {r : V → Option Int → Option Int → Hp → VK → Prop} {tlo thi : TO} (q : te σ H fun x H1 => tlo σ H1 fun l H2 => thi σ H2 fun u H3 => r x l u H3 Q) : tSl r te tlo thi σ H Q := q
theorem sx_noPart {Q : Option Int → Hp → Prop} (q : Q none H) : tNoPart σ H Q := q
theorem sx_part {Q : Option Int → Hp → Prop} (q : te σ H fun x H1 => ∃ i, x = .int i ∧ Q (some i) H1) : tPart te σ H Q := q
theorem sx_isI {i : Int} {P : Int → Prop} (q : P i) : ∃ j, V.int i = .int j ∧ P j := ⟨i, rfl, q⟩
theorem sx_slL {a : Addr} {xs : List V} {lo hi : Option Int} (e : Ex B H) (hx : SqL K H a xs) (q : ∀ p H', H p = none → Nx [] B H B H' → Mu B H' p (cutV xs lo hi) → Q (.ref p) H') : rSlL K (.ref a) lo hi H Q := ⟨a, xs, rfl, hx, fun p hp => q p _ hp (Nx.own e hp) (Mu.new e hp)⟩
def rRevL (K : PySem.W.Frag) : V → Hp → VK → Prop := fun x H1 Q => ∃ a xs, x = .ref a ∧ SqL K H1 a xs ∧ ∀ p, H1 p = none → Q (.ref p) (upd H1 p (.lst xs.reverse))
theorem sx_revL (q : te σ H fun x H1 => rRevL K x H1 Q) : tRevL K te σ H Q := q
theorem sx_revL2 {a : Addr} {xs : List V} (e : Ex B H) (hx : SqL K H a xs) (q : ∀ p H', H p = none → Nx [] B H B H' → Mu B H' p xs.reverse → Q (.ref p) H') : rRevL K (.ref a) H Q := ⟨a, xs, rfl, hx, fun p hp => q p _ hp (Nx.own e hp) (Mu.new e hp)⟩
theorem cut_to (xs : List V) (n : Nat) : cutV xs none (some (n : Int)) = xs.take n := by
  unfold cutV
  rw [HT.sIx_none, HT.sIx_nat, List.drop_zero, Nat.sub_zero, List.take_eq_take_iff]
  simp
end

theorem Nx.sq {K : PySem.W.Frag} {M : List Addr} {B H B' H' : Hp} {a : Addr} {xs : List V} (n : Nx M B H B' H') (h : SqL K H a xs) (ha : a ∉ M) : SqL K H' a xs := by
  rcases h with (h | ⟨o, h⟩) | h
  · exact .inl (.inl (n.k a _ h ha))
  · exact .inl (.inr ⟨o, n.k a _ h ha⟩)
  · exact .inr h
/-! data without lists -/
mutual
def flatD : PyData → Bool
  | .list _ => false
  | .dict _ => false
  | .tuple ds => flatDs ds
  | _ => true
def flatDs : List PyData → Bool
  | [] => true
  | d :: ds => flatD d && flatDs ds
end
theorem flatDs_get {ds : List PyData} {i : Nat} {d : PyData} (h : flatDs ds = true) (e : ds[i]? = some d) : flatD d = true := by
  induction ds generalizing i with
  | nil => simp at e
  | cons x r ih =>
    unfold flatDs at h
    rw [Bool.and_eq_true] at h
    cases i with
    | zero =>
      have e' : x = d := Option.some.inj e
      rw [← e']
      exact h.1
    | succ i => exact ih h.2 e
/-! how many parts -/
mutual
def szD : PyData → Nat
  | .tuple ds => szDs ds + 1
  | _ => 1
def szDs : List PyData → Nat
  | [] => 0
  | d :: ds => szD d + szDs ds
end
def isInt : PyData → Bool
  | .int _ => true
  | .bool _ => true
  | _ => false
theorem kit_int (d : PyData) : kitB (tyD d) "int" = some (isInt d) := by
  cases d with
  | none => exact (by decide +kernel : kitB "NoneType" "int" = some false)
  | bool b => exact (by decide +kernel : kitB "bool" "int" = some true)
  | int i => exact (by decide +kernel : kitB "int" "int" = some true)
  | str z => exact (by decide +kernel : kitB "str" "int" = some false)
  | list ds => exact (by decide +kernel : kitB "list" "int" = some false)
  | tuple ds => exact (by decide +kernel : kitB "tuple" "int" = some false)
  | dict ds => exact (by decide +kernel : kitB "dict" "int" = some false)
theorem sx_isInt {K : PySem.W.Frag} {B H : Hp} {Q : VK} {x : V} {d : PyData} (h : Dp K B x d) (e : Ex B H) (q : Q (.bl (isInt d)) H) : rIsi K [x, .ty "int"] H Q := sx_isi h e (kit_int d) q
def isBool : PyData → Bool
  | .bool _ => true
  | _ => false
theorem kit_bool (d : PyData) : kitB (tyD d) "bool" = some (isBool d) := by
  cases d with
  | none => exact (by decide +kernel : kitB "NoneType" "bool" = some false)
  | bool b => exact (by decide +kernel : kitB "bool" "bool" = some true)
  | int i => exact (by decide +kernel : kitB "int" "bool" = some false)
  | str z => exact (by decide +kernel : kitB "str" "bool" = some false)
  | list ds => exact (by decide +kernel : kitB "list" "bool" = some false)
  | tuple ds => exact (by decide +kernel : kitB "tuple" "bool" = some false)
  | dict ds => exact (by decide +kernel : kitB "dict" "bool" = some false)
theorem sx_isBool {K : PySem.W.Frag} {B H : Hp} {Q : VK} {x : V} {d : PyData} (h : Dp K B x d) (e : Ex B H) (q : Q (.bl (isBool d)) H) : rIsi K [x, .ty "bool"] H Q := sx_isi h e (kit_bool d) q
def isStr : PyData → Bool
  | .str _ => true
  | _ => false
theorem kit_str (d : PyData) : kitB (tyD d) "str" = some (isStr d) := by
  cases d with
  | none => exact (by decide +kernel : kitB "NoneType" "str" = some false)
  | bool b => exact (by decide +kernel : kitB "bool" "str" = some false)
  | int i => exact (by decide +kernel : kitB "int" "str" = some false)
  | str z => exact (by decide +kernel : kitB "str" "str" = some true)
  | list ds => exact (by decide +kernel : kitB "list" "str" = some false)
  | tuple ds => exact (by decide +kernel : kitB "tuple" "str" = some false)
  | dict ds => exact (by decide +kernel : kitB "dict" "str" = some false)
theorem sx_isStr {K : PySem.W.Frag} {B H : Hp} {Q : VK} {x : V} {d : PyData} (h : Dp K B x d) (e : Ex B H) (q : Q (.bl (isStr d)) H) : rIsi K [x, .ty "str"] H Q := sx_isi h e (kit_str d) q
def isTup : PyData → Bool
  | .tuple _ => true
  | _ => false
theorem kit_tuple (d : PyData) : kitB (tyD d) "tuple" = some (isTup d) := by
  cases d with
  | none => exact (by decide +kernel : kitB "NoneType" "tuple" = some false)
  | bool b => exact (by decide +kernel : kitB "bool" "tuple" = some false)
  | int i => exact (by decide +kernel : kitB "int" "tuple" = some false)
  | str z => exact (by decide +kernel : kitB "str" "tuple" = some false)
  | list ds => exact (by decide +kernel : kitB "list" "tuple" = some false)
  | tuple ds => exact (by decide +kernel : kitB "tuple" "tuple" = some true)
  | dict ds => exact (by decide +kernel : kitB "dict" "tuple" = some false)
theorem sx_isTup {K : PySem.W.Frag} {B H : Hp} {Q : VK} {x : V} {d : PyData} (h : Dp K B x d) (e : Ex B H) (q : Q (.bl (isTup d)) H) : rIsi K [x, .ty "tuple"] H Q := sx_isi h e (kit_tuple d) q
def isList : PyData → Bool
  | .list _ => true
  | _ => false
theorem kit_list (d : PyData) : kitB (tyD d) "list" = some (isList d) := by
  cases d with
  | none => exact (by decide +kernel : kitB "NoneType" "list" = some false)
  | bool b => exact (by decide +kernel : kitB "bool" "list" = some false)
  | int i => exact (by decide +kernel : kitB "int" "list" = some false)
  | str z => exact (by decide +kernel : kitB "str" "list" = some false)
  | list ds => exact (by decide +kernel : kitB "list" "list" = some true)
  | tuple ds => exact (by decide +kernel : kitB "tuple" "list" = some false)
  | dict ds => exact (by decide +kernel : kitB "dict" "list" = some false)
theorem sx_isList {K : PySem.W.Frag} {B H : Hp} {Q : VK} {x : V} {d : PyData} (h : Dp K B x d) (e : Ex B H) (q : Q (.bl (isList d)) H) : rIsi K [x, .ty "list"] H Q := sx_isi h e (kit_list d) q
def isDict : PyData → Bool
  | .dict _ => true
  | _ => false
theorem kit_dict (d : PyData) : kitB (tyD d) "dict" = some (isDict d) := by
  cases d with
  | none => exact (by decide +kernel : kitB "NoneType" "dict" = some false)
  | bool b => exact (by decide +kernel : kitB "bool" "dict" = some false)
  | int i => exact (by decide +kernel : kitB "int" "dict" = some false)
  | str z => exact (by decide +kernel : kitB "str" "dict" = some false)
  | list ds => exact (by decide +kernel : kitB "list" "dict" = some false)
  | tuple ds => exact (by decide +kernel : kitB "tuple" "dict" = some false)
  | dict ds => exact (by decide +kernel : kitB "dict" "dict" = some true)
theorem sx_isDict {K : PySem.W.Frag} {B H : Hp} {Q : VK} {x : V} {d : PyData} (h : Dp K B x d) (e : Ex B H) (q : Q (.bl (isDict d)) H) : rIsi K [x, .ty "dict"] H Q := sx_isi h e (kit_dict d) q

/-- what is one's own changes -/
theorem Nx.loc {M : List Addr} {B H B1 H1 B2 H2 : Hp} (n : Nx [] B H B1 H1) (m : Nx M B1 H1 B2 H2) (hM : ∀ a ∈ M, H a = none) : Nx [] B H B2 H2 :=
  ⟨n.b.trans m.b, m.h, fun a o h _ => m.k a o (n.k a o h (by simp)) (fun z => by rw [hM a z] at h; cases h), fun a h q => m.f a (n.f a h q) (by
    cases e : H a with
    | none => exact absurd e q
    | some o => rw [n.k a o e (by simp)]; exact fun z => nomatch z)⟩
theorem sx_gtup2 {K : PySem.W.Frag} {B H : Hp} {σ : L2.St} {v : V} {d1 d2 : PyData} {i j : Nat} {Q : L2.St → Hp → Prop} (h : Dp K B v (.tuple [d1, d2])) (e : Ex B H) (q : ∀ v1 v2, Dp K B v1 d1 → Dp K B v2 d2 → Q ((σ.set i (some v1)).set j (some v2)) H) :
    gTup K 2 (gCons (gName i) (gCons (gName j) gNil)) v σ H Q := by
  obtain ⟨a, xs, rfl, hs, hd⟩ := Dp.tup_v h
  cases hd with
  | cons h1 h2 =>
    cases h2 with
    | cons h2 h3 =>
      cases h3
      exact ⟨a, _, rfl, e.t hs, rfl, _, _, rfl, _, _, rfl, rfl, q _ _ h1 h2⟩
theorem szDs_app : ∀ (a b : List PyData), szDs (a ++ b) = szDs a + szDs b
  | [], b => by simp [szDs]
  | x :: r, b => by
    show szD x + szDs (r ++ b) = szD x + szDs r + szDs b
    rw [szDs_app r b]
    omega
theorem flatDs_app : ∀ (a b : List PyData), flatDs (a ++ b) = (flatDs a && flatDs b)
  | [], b => by simp [flatDs]
  | x :: r, b => by
    show (flatD x && flatDs (r ++ b)) = (flatD x && flatDs r && flatDs b)
    rw [flatDs_app r b, Bool.and_assoc]
theorem szD_pos (d : PyData) : 0 < szD d := by
  cases d <;> simp [szD]
theorem szDs_len : ∀ (a : List PyData), a.length ≤ szDs a
  | [] => Nat.zero_le _
  | x :: r => by
    have h1 := szDs_len r
    have h2 := szD_pos x
    show r.length + 1 ≤ szD x + szDs r
    omega
theorem szDs_take (a : List PyData) (n : Nat) : szDs (a.take n) ≤ szDs a := by
  have h := szDs_app (a.take n) (a.drop n)
  rw [List.take_append_drop] at h
  omega
theorem flatDs_take {a : List PyData} (h : flatDs a = true) (n : Nat) : flatDs (a.take n) = true := by
  have e := flatDs_app (a.take n) (a.drop n)
  rw [List.take_append_drop, h] at e
  exact (Bool.and_eq_true_iff.mp e.symm).1

/-- a new tuple, untold -/
theorem sx_newTp {B H : Hp} {Q : VK} {xs : List V} (e : Ex B H) (hz : xs.length ≤ 100000) (q : ∀ p H', H p = none → Nx [] B H B H' → H' p = some (.tup xs) → Q (.ref p) H') : rNewT xs H Q :=
  ⟨sz_of hz, fun p hp => q p _ hp (Nx.own e hp) upd_same⟩
theorem sx_isiT3 {K : PySem.W.Frag} {B H : Hp} {Q : VK} {x : V} {d : PyData} {p : Addr} (h : Dp K B x d) (e : Ex B H) (hp : H p = some (.tup [.ty "tuple", .ty "list", .ty "dict"])) (q : Q (.bl (isTup d || (isList d || isDict d))) H) : rIsiT K [x, .ref p] H Q :=
  ⟨x, p, _, .type (tyD d), [.type "tuple", .type "list", .type "dict"], _, rfl, hp, .cons (.ty _) (.cons (.ty _) (.cons (.ty _) .nil)), Dp.ty h e, by
    have h1 := kit_ty (K := K) (kit_tuple d)
    have h2 := kit_ty (K := K) (kit_list d)
    have h3 := kit_ty (K := K) (kit_dict d)
    simp only [PySem.W.kitAny, h1, h2, h3]
    cases isTup d <;> cases isList d <;> cases isDict d <;> rfl, q⟩

/-! ### == and != with an empty list, an empty tuple -/
def rEmL (K : PySem.W.Frag) (neg : Bool) : R2 := fun x y H Q => ∃ a b xs, x = .ref a ∧ y = .ref b ∧ SqL K H a xs ∧ SqL K H b [] ∧ Q (.bl (if neg then !xs.isEmpty else xs.isEmpty)) H
def rEmT (K : PySem.W.Frag) (neg : Bool) : R2 := fun x y H Q => ∃ a b xs, x = .ref a ∧ y = .ref b ∧ SqT K H a xs ∧ SqT K H b [] ∧ Q (.bl (if neg then !xs.isEmpty else xs.isEmpty)) H
section
variable {X : Cx}
theorem op_neNilL (hu : X.A.units + 64 < cLine) : OpR X (compareOp .NotEq) (rEmL X.K true) := by
  intro pins s σ H x y v u Q I rx ry h
  obtain ⟨a, b, xs, rfl, rfl, h1, h2, q⟩ := h
  cases rx
  cases ry
  obtain ⟨its, r1, p1, _⟩ := I.list h1
  obtain ⟨its2, r2, p2, _⟩ := I.list h2
  have e2 : its2 = [] := Vals.zero r2
  subst e2
  have hu' : X.A.units < cLine := by omega
  cases xs with
  | nil =>
    have e1 : its = [] := Vals.zero r1
    subst e1
    exact SeqAt.RcNeAt.lists (e := fun _ => true) p1.isList p2.isList rfl hu' (fun j h1 _ => absurd h1 (by simp)) X.prog X.w X.xe _ ⟨.bl false, H, I, rfl, q⟩
  | cons x r =>
    refine SeqAt.RcNeAt.lists_lengths p1.isList p2.isList ?_ hu' X.prog X.w X.xe _ ⟨.bl true, H, I, rfl, q⟩
    have := r1.length
    cases its with
    | nil => simp at this
    | cons z t => simp
theorem op_eqNilL (hu : X.A.units + 64 < cLine) : OpR X (compareOp .Eq) (rEmL X.K false) := by
  intro pins s σ H x y v u Q I rx ry h
  obtain ⟨a, b, xs, rfl, rfl, h1, h2, q⟩ := h
  cases rx
  cases ry
  obtain ⟨its, r1, p1, _⟩ := I.list h1
  obtain ⟨its2, r2, p2, _⟩ := I.list h2
  have e2 : its2 = [] := Vals.zero r2
  subst e2
  have hu' : X.A.units < cLine := by omega
  cases xs with
  | nil =>
    have e1 : its = [] := Vals.zero r1
    subst e1
    exact SeqAt.RcAt.lists (e := fun _ => true) p1.isList p2.isList rfl hu' (fun j h1 _ => absurd h1 (by simp)) X.prog X.w X.xe _ ⟨.bl true, H, I, rfl, q⟩
  | cons x r =>
    refine SeqAt.RcAt.lists_lengths p1.isList p2.isList ?_ hu' X.prog X.w X.xe _ ⟨.bl false, H, I, rfl, q⟩
    have := r1.length
    cases its with
    | nil => simp at this
    | cons z t => simp
theorem op_neNilT (hu : X.A.units + 64 < cLine) : OpR X (compareOp .NotEq) (rEmT X.K true) := by
  intro pins s σ H x y v u Q I rx ry h
  obtain ⟨a, b, xs, rfl, rfl, h1, h2, q⟩ := h
  cases rx
  cases ry
  obtain ⟨its, r1, ⟨o1, ho1, hc1, n1, hd1⟩, _⟩ := I.tuple h1
  obtain ⟨its2, r2, ⟨o2, ho2, hc2, n2, hd2⟩, _⟩ := I.tuple h2
  have e2 : its2 = [] := Vals.zero r2
  subst e2
  have hu' : X.A.units < cLine := by omega
  have t1 : s.heap.IsTuple a its.toArray := ⟨_, ho1, hc1, n1, hd1⟩
  have t2 : s.heap.IsTuple b ([] : List Value).toArray := ⟨_, ho2, hc2, n2, hd2⟩
  refine SeqAt.RcNeAt.tuples (e := fun _ => true) t1 t2 hu' (fun j _ h1 => absurd h1 (by simp)) X.prog X.w X.xe _ ⟨.bl (!xs.isEmpty), H, I, ?_, q⟩
  have := r1.length
  cases xs with
  | nil =>
    have e1 : its = [] := Vals.zero r1
    subst e1
    rfl
  | cons x r =>
    cases its with
    | nil => simp at this
    | cons z t =>
      show Value.bool _ = Value.bool _
      simp
theorem op_eqNilT (hu : X.A.units + 64 < cLine) : OpR X (compareOp .Eq) (rEmT X.K false) := by
  intro pins s σ H x y v u Q I rx ry h
  obtain ⟨a, b, xs, rfl, rfl, h1, h2, q⟩ := h
  cases rx
  cases ry
  obtain ⟨its, r1, ⟨o1, ho1, hc1, n1, hd1⟩, _⟩ := I.tuple h1
  obtain ⟨its2, r2, ⟨o2, ho2, hc2, n2, hd2⟩, _⟩ := I.tuple h2
  have e2 : its2 = [] := Vals.zero r2
  subst e2
  have hu' : X.A.units < cLine := by omega
  have t1 : s.heap.IsTuple a its.toArray := ⟨_, ho1, hc1, n1, hd1⟩
  have t2 : s.heap.IsTuple b ([] : List Value).toArray := ⟨_, ho2, hc2, n2, hd2⟩
  refine SeqAt.RcAt.tuples (e := fun _ => true) t1 t2 hu' (fun j _ h1 => absurd h1 (by simp)) X.prog X.w X.xe _ ⟨.bl xs.isEmpty, H, I, ?_, q⟩
  have := r1.length
  cases xs with
  | nil =>
    have e1 : its = [] := Vals.zero r1
    subst e1
    rfl
  | cons x r =>
    cases its with
    | nil => simp at this
    | cons z t =>
      show Value.bool _ = Value.bool _
      simp
end
section
variable {K : PySem.W.Frag} {B H : Hp} {Q : VK} {x y : V}
theorem sx_emL {neg : Bool} {a b : Addr} {xs : List V} (h1 : SqL K H a xs) (h2 : SqL K H b []) (q : Q (.bl (if neg then !xs.isEmpty else xs.isEmpty)) H) : rEmL K neg (.ref a) (.ref b) H Q := ⟨a, b, xs, rfl, rfl, h1, h2, q⟩
theorem sx_neTd {ds : List PyData} (h1 : Dp K B x (.tuple ds)) (e : Ex B H) {b : Addr} (h2 : H b = some (.tup [])) (q : Q (.bl (!ds.isEmpty)) H) : rEmT K true x (.ref b) H Q := by
  obtain ⟨a, xs, rfl, hs, hd⟩ := Dp.tup_v h1
  refine ⟨a, b, xs, rfl, rfl, e.t hs, SqT.of h2, ?_⟩
  have := Dps.len hd
  cases xs <;> cases ds <;> simp_all
/-! in a display of texts -/
theorem inV_str (z : Str) (ss : List Str) : inV (.str z) (ss.map V.str) = decide (z ∈ ss) := by
  unfold inV
  induction ss with
  | nil => rfl
  | cons s r ih =>
    rw [List.map_cons, List.any_cons, ih]
    have : eqV (.str s) (.str z) = decide (s = z) := by
      show (s == z) = decide (s = z)
      rw [Bool.eq_iff_iff, beq_iff_eq, decide_eq_true_iff]
    rw [this]
    by_cases h : z = s
    · subst h; simp
    · have h' : ¬ s = z := fun e => h e.symm
      simp [h, h']
theorem flat_strs (ss : List Str) : (ss.map V.str).all flatV = true := by
  induction ss with
  | nil => rfl
  | cons s r ih => rw [List.map_cons, List.all_cons, ih]; rfl
theorem sx_inTs {p : Addr} {z : Str} (ss : List Str) (h : SqT K H p (ss.map V.str)) (q : Q (.bl (decide (z ∈ ss))) H) : rIn K false (.str z) (.ref p) H Q :=
  ⟨p, _, rfl, .inr h, rfl, flat_strs ss, by simp only [Bool.false_eq_true, if_false, inV_str]; exact q⟩
theorem sx_inLs {p : Addr} {z : Str} (ss : List Str) (h : SqL K H p (ss.map V.str)) (q : Q (.bl (decide (z ∈ ss))) H) : rIn K false (.str z) (.ref p) H Q :=
  ⟨p, _, rfl, .inl h, rfl, flat_strs ss, by simp only [Bool.false_eq_true, if_false, inV_str]; exact q⟩
end

theorem sx_neLd {K : PySem.W.Frag} {B H : Hp} {Q : VK} {neg : Bool} {b : Addr} {xs : List V} {l : Addr} (m : Mu B H l xs) (h2 : SqL K H b []) (q : Q (.bl (if neg then !xs.isEmpty else xs.isEmpty)) H) : rEmL K neg (.ref l) (.ref b) H Q := ⟨l, b, xs, rfl, rfl, m.sq, h2, q⟩

theorem at0 {α : Type} {x : α} {r : List α} : atI (x :: r) 0 = some x := atI_nat (j := 0) rfl
theorem at1 {α : Type} {x y : α} {r : List α} : atI (x :: y :: r) 1 = some y := atI_nat (j := 1) rfl
theorem at2 {α : Type} {x y z : α} {r : List α} : atI (x :: y :: z :: r) 2 = some z := atI_nat (j := 2) rfl

theorem sx_catT {K : PySem.W.Frag} {B H : Hp} {Q : VK} {a b : Addr} {xs ys : List V} (e : Ex B H) (h1 : SqT K H a xs) (h2 : SqT K H b ys) (hx : xs ≠ []) (hy : ys ≠ []) (hz : xs.length + ys.length ≤ 100000)
    (q : ∀ p H', H p = none → Nx [] B H B H' → H' p = some (.tup (xs ++ ys)) → Q (.ref p) H') : rCatT K (.ref a) (.ref b) H Q :=
  ⟨a, b, xs, ys, rfl, rfl, h1, h2, hx, sz_of hz, fun z => absurd z hy, fun _ p hp => q p _ hp (Nx.own e hp) upd_same⟩
theorem sx_extend {B H : Hp} {Q : VK} {l b : Addr} {xs ys : List V} (m : Mu B H l xs) (e : Ex B H) (hb : H b = some (.lst ys)) (hz : xs.length + ys.length ≤ 100000) (q : ∀ H', Nx [l] B H B H' → Mu B H' l (xs ++ ys) → Q .non H') : rExtend (.ref l) [.ref b] H Q :=
  ⟨l, b, xs, ys, rfl, rfl, m.h, hb, sz_of hz, q _ (m.put e) m.set⟩

section
variable {K : PySem.W.Frag} {B H : Hp} {Q : VK} {x : V}
theorem cut_from1 (xs : List V) : cutV xs (some 1) none = xs.drop 1 := by
  unfold cutV
  rw [show HT.sIx xs.length 0 (some 1) = min 1 xs.length from HT.sIx_nat xs.length 0 1, HT.sIx_none]
  cases xs with
  | nil => rfl
  | cons x r =>
    rw [show min 1 (x :: r).length = 1 by rw [List.length_cons]; omega]
    show (List.take ((x :: r).length - 1) r) = r
    rw [List.length_cons, Nat.add_sub_cancel]
    exact List.take_length
/-- t[1:] -/
theorem sx_tail {d : PyData} {ds : List PyData} (h : Dp K B x (.tuple (d :: ds))) (e : Ex B H) (q : ∀ p B' H', H p = none → Nx [] B H B' H' → Dp K B' (.ref p) (.tuple ds) → Q (.ref p) H') : rSlT K x (some 1) none H Q := by
  obtain ⟨a, xs, rfl, hs, hd⟩ := Dp.tup_v h
  have hl := Dps.len hd
  refine ⟨a, xs, rfl, e.t hs, fun z => ?_, fun p hp => ?_⟩
  · have := z.1
    rw [show HT.sIx xs.length 0 (some 1) = min 1 xs.length from HT.sIx_nat xs.length 0 1, hl, List.length_cons] at this
    omega
  · rw [cut_from1]
    have hd' := Dps.drop 1 hd
    exact q p (upd B p (.tup (xs.drop 1))) _ hp (Nx.new e hp) (.tup (SqT.of upd_same) (Dps.up (Ex.new (e.free hp)) hd'))
theorem sx_listTd {ds : List PyData} (h : Dp K B x (.tuple ds)) (e : Ex B H) (q : ∀ l xs H', H l = none → Nx [] B H B H' → Mu B H' l xs → DpAll K B xs ds → Q (.ref l) H') : rListOf K [x] H Q := by
  obtain ⟨a, xs, rfl, hs, hd⟩ := Dp.tup_v h
  exact sx_listOf e (.inr (e.t hs)) fun l H' h1 h2 h3 => q l xs H' h1 h2 h3 hd
theorem sx_cat {l b : Addr} {xs ys : List V} (e : Ex B H) (h1 : H l = some (.lst xs)) (h2 : H b = some (.lst ys)) (hz : xs.length + ys.length ≤ 100000) (q : ∀ p H', H p = none → Nx [] B H B H' → Mu B H' p (xs ++ ys) → Q (.ref p) H') : rCat (.ref l) (.ref b) H Q :=
  ⟨l, b, xs, ys, rfl, rfl, h1, h2, sz_of hz, fun p hp => q p _ hp (Nx.own e hp) (Mu.new e hp)⟩
end
theorem sx_yes {σ : L2.St} {H : Hp} {R : Bool → Hp → Prop} (q : R true H) : tYes σ H R := q

/-- sorted of two ints -/
theorem sorted2 {ns : List Int} {i j : Int} (h : ns.Perm [i, j]) (k : ns.Pairwise (· ≤ ·)) : ns = [if j < i then j else i, if j > i then j else i] := by
  have hl := h.length_eq
  match ns, hl with
  | [x, y], _ =>
    have hxy : x ≤ y := by
      cases k with
      | cons a _ => exact a y (by simp)
    have hx : x ∈ [i, j] := h.mem_iff.mp (by simp)
    simp only [List.mem_cons, List.not_mem_nil, or_false] at hx
    rcases hx with rfl | rfl
    · have h2 := (List.perm_cons x).mp h
      have : y ∈ [j] := h2.mem_iff.mp (by simp)
      rw [List.mem_singleton] at this
      subst this
      rw [if_neg (by omega)]
      by_cases h : y > x
      · rw [if_pos h]
      · rw [if_neg h, show y = x by omega]
    · have h2 := (List.perm_cons x).mp (h.trans (List.Perm.swap x i []))
      have : y ∈ [i] := h2.mem_iff.mp (by simp)
      rw [List.mem_singleton] at this
      subst this
      rw [if_neg (show ¬ x > y by omega)]
      by_cases h : x < y
      · rw [if_pos h]
      · rw [if_neg h, show x = y by omega]
theorem sx_sorted2 {K : PySem.W.Frag} {B H : Hp} {Q : VK} {a : Addr} {i j : Int} (e : Ex B H) (h : SqL K H a [.int i, .int j]) (q : ∀ p H', H p = none → Nx [] B H B H' → Mu B H' p [.int (if j < i then j else i), .int (if j > i then j else i)] → Q (.ref p) H') : rSorted K [.ref a] H Q :=
  ⟨a, [i, j], rfl, h, by show 2 < 64; omega, fun ns p hp hs hn => by
    have := sorted2 hp hs
    subst this
    exact q p _ hn (Nx.own e hn) (Mu.new e hn)⟩
/-! ### within a comprehension: the fragment told ahead -/
section
variable {X : Cx} {K : PySem.W.Frag}
theorem k_isi (h : X.K = K) : CallR X (.builtin "isinstance") (rIsi K) := h ▸ call_isi
theorem k_isiT (h : X.K = K) : CallR X (.builtin "isinstance") (rIsiT K) := h ▸ call_isiT
theorem k_len (h : X.K = K) : CallR X (.builtin "len") (rLen K) := h ▸ cl_len
theorem k_list (h : X.K = K) : CallR X (.type "list") (rListOf K) := h ▸ cl_list
theorem k_tuple (h : X.K = K) : CallR X (.type "tuple") (rTupOf K) := h ▸ cl_tuple
theorem k_ixL (h : X.K = K) : IxR X (rIxL K) := h ▸ ix_list
theorem k_ixT (h : X.K = K) : IxR X (rIxT K) := h ▸ ix_tup
theorem k_in (h : X.K = K) : OpR X (compareOp .In) (rIn K false) := h ▸ op_in_seq
theorem k_nin (h : X.K = K) : OpR X (compareOp .NotIn) (rIn K true) := h ▸ op_notIn_seq
/-- [x for x in t if isinstance(x, tuple)] -/
theorem sx_lcTups {a : Addr} {xs : List V} {ds : List PyData} {j : Nat} {tt : TT} {te : TE} {vs : List Nat} {σ : L2.St} {B H : Hp} {Q : VK} (e : Ex B H) (hx : SqT K B a xs) (hd : DpAll K B xs ds) (hz : ds.length ≤ 100000)
    (hw : ∀ x, wipe ((wipe σ vs).set j (some x)) vs = wipe σ vs)
    (ht : ∀ x d, Dp K B x d → ∀ H1 (R : Bool → Hp → Prop), Ex B H1 → R (isTup d) H1 → tt ((wipe σ vs).set j (some x)) H1 R)
    (he : ∀ x ∈ xs, ∀ H1 (R : VK), Ex B H1 → R x H1 → te ((wipe σ vs).set j (some x)) H1 R)
    (q : ∀ p ys H', H p = none → Nx [] B H B H' → Mu B H' p ys → DpAll K B ys (ds.filter isTup) → Q (.ref p) H') : rLcT K (gName j) tt te vs σ (.ref a) H Q := by
  have hl := Dps.len hd
  refine sx_lcT_by (e.t hx) (fun L i H' => H L = none ∧ ∃ ys, Nx [] B H B H' ∧ Mu B H' L ys ∧ DpAll K B ys ((ds.take i).filter isTup)) (fun L hL => ⟨hL, [], Nx.own e hL, Mu.new e hL, .nil⟩) (fun L i H' _ ⟨_, ys, n, _, _⟩ => n.h.t hx) (fun L i x H1 hi p => ?_) (fun L H' ⟨hL, ys, n, m, d⟩ => ?_)
  · obtain ⟨hL, ys, n, m, d⟩ := p
    have hm : x ∈ xs := List.mem_of_getElem? hi
    obtain ⟨d1, e1, hd1⟩ := Dps.got hd hi
    have et : (ds.take (i + 1)).filter isTup = (ds.take i).filter isTup ++ if isTup d1 then [d1] else [] := by
      rw [List.take_add_one, e1, List.filter_append]
      cases z : isTup d1 <;> simp [z]
    refine sx_gname ⟨hw x, ht x d1 hd1 H1 _ n.h ?_⟩
    rw [et]
    cases z : isTup d1 with
    | false =>
      refine ifF rfl ?_
      exact ⟨hL, ys, n, m, by simpa using d⟩
    | true =>
      refine ifT rfl (he x hm H1 _ n.h ?_)
      have hlen := Dps.len d
      have h2 := List.length_filter_le isTup (ds.take i)
      have h3 := List.length_take_le i ds
      have h4 := (List.getElem?_eq_some_iff.mp hi).1
      rw [List.length_take] at h2
      refine sx_lcEnd (P := fun H' => H L = none ∧ ∃ ys, Nx [] B H B H' ∧ Mu B H' L ys ∧ DpAll K B ys ((ds.take i).filter isTup ++ if true = true then [d1] else [])) m n.h (by omega) fun H2 n2 m2 => ⟨hL, ys ++ [x], n.loc n2 (by simp [hL]), m2, Dps.app d (Dps.one hd1)⟩
  · exact q L ys H' hL n m (by rw [hl, List.take_length] at d; exact d)
end
end G

/-! GR: tuples whose object is known: displays, tuple(list), t[::-1], dict(t). -/
namespace L2.HT
open PySem PySem.Spec PyProof.Rows
end L2.HT
namespace G
open PySem PySem.Spec PyProof.Rows L2
section
variable {prog : Program} {w : World} {A : Around} {E : Value → Shared → Prop} {s : Shared}
theorem rev_adjust (n : Nat) : Builtin.Slice.sliceAdjust none none (-1) (n : Int) = ((n : Int) - 1, -1) := by
  unfold Builtin.Slice.sliceAdjust
  rfl
theorem rev_places (n : Nat) : Builtin.Slice.slicePlaces ((n : Int) - 1) (-1) (-1) = n := by
  unfold Builtin.Slice.slicePlaces
  have h1 : ¬ ((-1 : Int) > 0) := by omega
  simp only [h1, if_false]
  have e : ((n : Int) - 1 - -1 - 1) / (- -1) = (n : Int) - 1 := by
    rw [show (- -1 : Int) = 1 by decide, Int.ediv_one]
    omega
  split
  · rw [e]
    omega
  · omega
theorem fm_congr {α β : Type} {f g : α → Option β} : ∀ {l : List α}, (∀ m ∈ l, f m = g m) → l.filterMap f = l.filterMap g
  | [], _ => rfl
  | x :: r, h => by
    rw [List.filterMap_cons, List.filterMap_cons, h x List.mem_cons_self, fm_congr fun m hm => h m (List.mem_cons_of_mem _ hm)]
theorem rev_pick (xs : Array Value) : ((List.range xs.size).filterMap fun (m : Nat) => xs[(((xs.size : Int) - 1) + (m : Int) * (-1)).toNat]?).toArray = xs.toList.reverse.toArray := by
  have e : (List.range xs.size).filterMap (fun (m : Nat) => xs[(((xs.size : Int) - 1) + (m : Int) * (-1)).toNat]?) = ((List.range xs.size).map fun k => xs.size - 1 - k).filterMap (xs[·]?) := by
    rw [List.filterMap_map]
    refine fm_congr fun m hm => ?_
    have := List.mem_range.mp hm
    show xs[_]? = xs[xs.size - 1 - m]?
    congr 1
    omega
  rw [e, PySem.W.krv_range, List.filterMap_reverse, PySem.W.krv_all]
theorem getItem_tuple_rev {t sl : Addr} {items : Array Value} {u : Tok} {Q : Value → Shared → Prop} (ht : IsTup s.heap t items) (hs : s.heap.IsSliceOf sl .none .none (.int (-1) u))
    (h : Q (.ref s.heap.objs.size) { s with heap := s.heap.push { cls := .type "tuple", data := .seq items.toList.reverse.toArray } }) (hsz : items.size ≤ sizeLine) : wpAny (model prog w) A (getItem (.ref t) (.ref sl)) Q E s := by
  have htake : sizeOk (.seq items.toList.reverse.toArray) := by
    show items.toList.reverse.toArray.size ≤ sizeLine
    rw [List.size_toArray, List.length_reverse, Array.length_toList]
    exact hsz
  obtain ⟨os, hos, hcs, hds⟩ := id hs
  have hTs : s.TypeIs (.ref sl) "slice" := ⟨os, hos, hcs⟩
  unfold getItem
  try with_reducible refine wpAny_holding ?_
  first | refine wpAny_bind (wpAny_pure ?_) | skip
  refine wpAny_bind (wpAny_sequenceKey ht.typeIs (by decide) ?_)
  refine wpAny_bind (wpAny_callSpecial?_slot (name := Str.ofString "__getitem__") ht.typeIs PyProof.Rows.slot_tuple_getitem
    (wpAny_call_entry PyProof.Rows.slot_tuple_getitem ht.typeIs entry_tuple_getitem ?_ (args_tuple_getitem _ _)))
  show wpAny _ _ (Builtin.Tuple.tupleItemsOf (.ref t) >>= _) _ _ s
  refine wpAny_bind (tupleItemsOf_ ht ?_)
  refine wpAny_bind (wpAny_typeOf hTs ?_)
  rw [if_pos (by decide)]
  have ap : ∀ {Q : Int × Int × Nat → Shared → Prop}, Q ((items.size : Int) - 1, -1, items.size) s → wpAny (model prog w) A.in1 (Builtin.Slice.sliceApplied (.ref sl) (pure (items.size : Int))) Q
      (fun e s' => E e s') s → True := fun _ _ => trivial
  refine wpAny_bind ?_
  unfold Builtin.Slice.sliceApplied Builtin.Slice.sliceFields
  refine wpAny_bind (wpAny_bind (wpAny_field hos hds (x := .none) rfl (wpAny_bind (wpAny_field hos hds (x := .none) rfl (wpAny_bind (wpAny_field hos hds (x := .int (-1) u) rfl (wpAny_pure ?_)))))))
  refine wpAny_bind (slicePart_int ?_)
  show wpAny _ _ (if ((-1 : Int) == 0) = true then _ else _) _ _ s
  rw [if_neg (by decide)]
  refine wpAny_bind (slicePart_none (wpAny_bind (slicePart_none (wpAny_bind (wpAny_pure ?_)))))
  show wpAny _ _ (match Builtin.Slice.sliceAdjust none none (-1) (items.size : Int) with | (lo, hi) => pure (lo, (-1 : Int), Builtin.Slice.slicePlaces lo hi (-1))) _ _ s
  rw [rev_adjust]
  show wpAny _ _ (pure ((items.size : Int) - 1, (-1 : Int), Builtin.Slice.slicePlaces ((items.size : Int) - 1) (-1) (-1))) _ _ s
  rw [rev_places]
  refine wpAny_pure ?_
  have hno : ¬ ((((items.size : Int) - 1) == 0 && (-1 : Int) == 1 && items.size == items.size) = true) := by simp
  show wpAny _ _ (if (((items.size : Int) - 1) == 0 && (-1 : Int) == 1 && items.size == items.size) = true then _ else _) _ _ s
  rw [if_neg hno, rev_pick]
  first
    | exact wpAny_bind (m := Builtin.Tuple.tupleExact _) (wpAny_newObj_type (wpAny_pure ⟨_, rfl, wpAny_pure h⟩) htake)
    | exact wpAny_bind (m := Builtin.Tuple.tupleExact _) (wpAny_newObj_type (wpAny_bind (wpAny_pure (wpAny_pure ⟨_, rfl, wpAny_pure h⟩))) htake)
    | exact wpAny_bind (wpAny_bind (m := Builtin.Tuple.tupleExact _) (wpAny_newObj_type (wpAny_pure (wpAny_pure ⟨_, rfl, wpAny_pure h⟩)) htake))
    | exact wpAny_bind (wpAny_bind (m := Builtin.Tuple.tupleExact _) (wpAny_newObj_type (wpAny_pure ⟨_, rfl, wpAny_pure h⟩) htake))
end
/-- a tuple whose object is known to have no dict -/
def TupO (o : Obj) : Prop := o.dict = none ∧ o.cls = .type "tuple"
section
variable {X : Cx} {es : List Expr} {e : Expr} {pos : Pos} {t : TA} {te : TE}
def rNewF (xs : List V) (H : Hp) (Q : VK) : Prop := xs.length ≤ sizeLine ∧ ∀ p o, H p = none → TupO o → Q (.ref p) (upd H p (.frz o (.tup xs)))
def tTupF (t : TA) : TE := fun σ H Q => t σ H fun xs H1 => rNewF xs H1 Q
theorem pe_tupF {x1} (h : PA X es t) : PE X (.Tuple es x1 pos) (tTupF t) := by
  refine ⟨fun pins s σ H Q I hq => ?_⟩
  refine wpAny_Tuple_spliced (thn (h.run pos pins s σ H _ I hq) fun us s1 ⟨xs, H1, I1, r, z, q⟩ => ⟨by rw [← r.length]; exact z, ?_⟩)
  have hf : H1 s1.heap.objs.size = none := I1.hok.fresh (Nat.le_refl _)
  refine ⟨.ref s1.heap.objs.size, upd H1 s1.heap.objs.size (.frz { cls := .type "tuple", data := .seq us.toArray } (.tup xs)), I1.laid (t' := s1.toks) (fun b u e => Heap.get?_push_of_some _ e) (Nat.le_refl _) ?_, rfl, q _ _ hf ⟨rfl, rfl⟩⟩
  exact ⟨Heap.get?_push_size _ rfl, z, us, r, ⟨_, Heap.get?_push_size _ rfl, rfl, _, rfl⟩⟩
/-- tuple(a list) -/
def rTupF (K : PySem.W.Frag) : List V → Hp → VK → Prop := fun xs H Q => ∃ p ys, xs = [.ref p] ∧ SqL K H p ys ∧ ∀ l o, H l = none → TupO o → Q (.ref l) (upd H l (.frz o (.tup ys)))
theorem cl_tupleF : CallR X (.type "tuple") (rTupF X.K) := by
  intro pins s σ H xs us Q I r h
  obtain ⟨p, ys, rfl, hq, q⟩ := h
  obtain ⟨u, rfl, rx⟩ := vals1 r
  cases rx
  obtain ⟨its, r', pl, hz⟩ := I.list hq
  have hlen := r'.length
  refine call_tuple_list pl.isList (fun h' kp => ?_) (by simp only [List.size_toArray] <;> omega)
  have I1 : Inv X pins σ H { s with heap := h' } := I.kept (t' := s.toks) kp
  have I2 : Inv X pins σ (upd H h'.objs.size (.frz { cls := .type "tuple", data := .seq its.toArray } (.tup ys))) { s with heap := h'.push { cls := .type "tuple", data := .seq its.toArray } } :=
    I1.laid (t' := s.toks) (fun b o e => Heap.get?_push_of_some _ e) (Nat.le_refl _) (show ObjOk X.prog X.w _ _ _ (.frz _ (.tup ys)) from ⟨Heap.get?_push_size _ rfl, hz, its, r', IsTup.new _ _⟩)
  exact ⟨.ref h'.objs.size, _, I2, rfl, q _ _ (I1.hok.fresh (Nat.le_refl _)) ⟨rfl, rfl⟩⟩
/-- t[::-1] -/
def rRevT (K : PySem.W.Frag) : V → Hp → VK → Prop := fun x H Q => ∃ a xs, x = .ref a ∧ SqT K H a xs ∧ ∀ p o, H p = none → TupO o → Q (.ref p) (upd H p (.frz o (.tup xs.reverse)))
def tRevT (K : PySem.W.Frag) (te : TE) : TE := fun σ H Q => te σ H fun x H1 => rRevT K x H1 Q
theorem pe_revT {k : Nat} {p1 p2 p3 : Pos} (he : PE X e te) : PE X (.Subscript e (.Slice none none (some (.UnaryOp .USub (.Constant (.int 1) k p1) p2)) p3) pos) (tRevT X.K te) := by
  refine ⟨fun pins s σ H Q I h => ?_⟩
  refine Subscript_ (thn (he.run pins s σ H _ I h) fun v s1 ⟨x, H1, I1, r1, q1⟩ => ?_)
  obtain ⟨a, xs, ex, hx, q⟩ := q1
  subst ex
  cases r1
  have hst : PO X (some (.UnaryOp .USub (.Constant (.int 1) k p1) p2)) (tPart (tUn (rU fun i => .int (-i)) (tC (.int 1)))) := po_some (pe_un un_neg pe_int)
  refine wpAny_Slice (thn (po_none.run pins s1 σ H1 (fun o H2 => o = none ∧ H2 = H1) I1 ⟨rfl, rfl⟩) fun vl s2 ⟨l, H2, I2, pl, el, e2⟩ => ?_)
  subst el e2
  refine thn (po_none.run pins s2 σ H2 (fun o H3 => o = none ∧ H3 = H2) I2 ⟨rfl, rfl⟩) fun vu s3 ⟨u, H3, I3, pu, eu, e3⟩ => ?_
  subst eu e3
  refine thn (hst.run pins s3 σ H3 (fun o H4 => o = some (-1) ∧ H4 = H3) I3 ⟨1, rfl, -1, rfl, rfl, rfl⟩) fun vs s4 ⟨o, H4, I4, ps, eo, e4⟩ => ?_
  subst eo e4
  have I5 : Inv X pins σ H4 { s4 with heap := s4.heap.push { cls := .type "slice", data := .fields #[vl, vu, vs] } } := I4.kept (t' := s4.toks) fun b ob q => Heap.get?_push_of_some _ q
  obtain ⟨its, r, ht, hz⟩ := I5.tuple hx
  have hlen := r.length
  cases pl
  cases pu
  cases ps with
  | int _ tk =>
    show wpAny (model X.prog X.w) X.A (subscriptTail e (.Slice none none (some (.UnaryOp .USub (.Constant (.int 1) k p1) p2)) p3) (.ref a) (.ref s4.heap.objs.size)) (EP X pins σ Q) X.xe { s4 with heap := s4.heap.push { cls := .type "slice", data := .fields #[.none, .none, .int (-1) tk] } }
    refine tail_any (ops := [.ref a, .ref s4.heap.objs.size]) ht.typeIs (PyProof.Rows.slot_tuple_getitem.lookup) ?_ (by with_unfolding_all rfl)
    refine getItem_tuple_rev ht (Heap.IsSliceOf.new _ .none .none (.int (-1) tk)) ?_ (by rw [List.size_toArray]; omega)
    refine ⟨.ref _, _, I5.laid (t' := s4.toks) (o := .frz { cls := .type "tuple", data := .seq its.reverse.toArray } (.tup xs.reverse)) (fun b ob q => Heap.get?_push_of_some _ q) (Nat.le_refl _) ?_, rfl, q _ _ (I5.hok.fresh (Nat.le_refl _)) ⟨rfl, rfl⟩⟩
    exact ⟨Heap.get?_push_size _ rfl, by rw [List.length_reverse]; exact hz, _, r.reverse, _, Heap.get?_push_size _ rfl, rfl, _, rfl⟩
theorem pairs_of2 {pins : List (Addr × Obj)} {σ : L2.St} {H : Hp} {s : Shared} (I : Inv X pins σ H s) : ∀ {ps : List Addr} {kvs : List (Key × V)}, Paired (fun p kv => SqT X.K H p [kV kv.1, kv.2]) ps kvs →
    ∃ (prs : List (Key × Value)) (vps : List (Value × Value)), KV kvs prs ∧ prs.length = ps.length ∧ vps.length = ps.length ∧ ∀ (j : Nat) (k v : Value), vps[j]? = some (k, v) → ∃ (b : Addr) (key : Key), ps[j]? = some b ∧ IsTup s.heap b #[k, v] ∧ prs[j]? = some (key, v) ∧ keyIs key k = true
  | _, _, .nil => ⟨[], [], .nil, rfl, rfl, fun j k v e => by simp at e⟩
  | _, _, .cons (a := p) (b := kv) h t => by
    obtain ⟨prs, vps, r, hl, hl2, hp⟩ := pairs_of2 I t
    obtain ⟨its, rv, ht, _⟩ := I.tuple h
    obtain ⟨u, y, ei, ru, ry⟩ := vals2 rv
    subst ei
    refine ⟨(kv.1, y) :: prs, (u, y) :: vps, .cons ⟨rfl, ry⟩ r, by rw [List.length_cons, List.length_cons, hl], by rw [List.length_cons, List.length_cons, hl2], fun j k v e => ?_⟩
    cases j with
    | zero =>
      have e' : (u, y) = (k, v) := Option.some.inj e
      cases e'
      refine ⟨p, kv.1, rfl, ht, rfl, ?_⟩
      cases hk : kv.1 with
      | inl i =>
        rw [hk] at ru
        obtain ⟨tk, rfl⟩ := (show ∃ t, u = Value.int i t from ru)
        exact keyIs_int i tk
      | inr z =>
        rw [hk] at ru
        obtain ⟨tk, rfl⟩ := (show ∃ t, u = Value.str z t from ru)
        exact keyIs_str z tk
    | succ j => exact hp j k v e
/-- dict(a tuple of pairs) -/
def rDictT (K : PySem.W.Frag) : List V → Hp → VK → Prop := fun xs H Q => ∃ (a : Addr) (o : Obj) (ps : List Addr) (kvs : List (Key × V)), xs = [.ref a] ∧ H a = some (.frz o (.tup (ps.map V.ref))) ∧ TupO o ∧ Paired (fun p kv => SqT K H p [kV kv.1, kv.2]) ps kvs ∧
  ∀ p, H p = none → Q (.ref p) (upd H p (.dK (mergeK [] kvs)))
theorem cl_dictT (hcalm : X.calm = true) : CallR X (.type "dict") (rDictT X.K) := by
  intro pins s σ H xs us Q I r q
  obtain ⟨a, o, ps, kvs, ex, hq, to, hp, q⟩ := q
  subst ex
  obtain ⟨u, eu, rx⟩ := vals1 r
  subst eu
  cases rx
  obtain ⟨ho, hz, its, rv, o2, ho2, hc2, n, hd2⟩ := (show ObjOk X.prog X.w H s.heap a (.frz o (.tup (ps.map V.ref))) from I.hok a _ hq)
  rw [ho] at ho2
  cases ho2
  have ei := refs_at rv
  subst ei
  rw [List.length_map] at hz
  obtain ⟨prs, vps, rel, hl, hl2, hpr⟩ := pairs_of2 I hp
  have ok : PlainSeq "tuple" s.heap a (ps.map Value.ref).toArray ∧ PairItems s.heap (ps.map Value.ref).toArray (fun j => (ps[j]?).getD 0) vps :=
    ⟨⟨o, n, ho, to.2, to.1, hd2⟩, by simp [hl2], fun j k v e => by
      obtain ⟨b, key, e1, e2, e3, e4⟩ := hpr j k v e
      refine ⟨by simp [e1], .inl ?_⟩
      obtain ⟨ob, q1, q2, q3⟩ := e2
      exact ⟨ob, by simpa [e1] using q1, q2, q3⟩⟩
  refine PySem.call_dict_pairs (knd := mixKind X.prog X.w) (kvs := prs) (PairArg.tuple a _ _ vps) (I.ok.hd hcalm) ok ⟨by rw [hl, hl2], fun i key v e => ?_⟩ (by rw [hl2]; exact hz) fun h' tk hd' k => ?_
  · obtain ⟨b, ky, e1, e2, e3, e4⟩ := hpr i key v e
    exact ⟨ky, e3, e4⟩
  · have k : ∀ b o, s.heap.get? b = some o → h'.get? b = some o := fun b o e => k b o (by simp) e
    have hm : (s.heap.objs.size == sysModules) = false := beq_eq_false_iff_ne.mpr (Nat.ne_of_gt I.big)
    have hlen : (mergeK [] kvs).length ≤ sizeLine := by
      refine Nat.le_trans (length_mergeK kvs []) ?_
      rw [List.length_nil, Nat.zero_add, rel.length, hl]
      exact hz
    exact ⟨.ref s.heap.objs.size, upd H s.heap.objs.size (.dK (mergeK [] kvs)), I.laid (t' := tk) k (Nat.le_refl _) (show ObjOk X.prog X.w _ _ _ (.dK (mergeK [] kvs)) from ⟨hlen, hm, merged [] prs, KV.merge rel .nil, hd'⟩), rfl, q _ (I.hok.fresh (Nat.le_refl _))⟩
end
section
variable {K : PySem.W.Frag} {B H : Hp} {Q : VK} {σ : L2.St} {t : TA} {te : TE}
theorem sx_tupF (q : t σ H fun xs H1 => rNewF xs H1 Q) : tTupF t σ H Q := q
theorem sx_revT (q : te σ H fun x H1 => rRevT K x H1 Q) : tRevT K te σ H Q := q
theorem fz_dp {p : Addr} {o : Obj} {xs : List V} {ds : List PyData} (e : Ex B H) (hp : H p = none) (hd : DpAll K B xs ds) : Dp K (upd B p (.frz o (.tup xs))) (.ref p) (.tuple ds) :=
  .tup (.inl (.inr ⟨o, upd_same⟩)) (Dps.up (Ex.new (e.free hp)) hd)
theorem sx_newF {xs : List V} {ds : List PyData} (e : Ex B H) (hd : DpAll K B xs ds) (hz : ds.length ≤ 100000) (q : ∀ p o B' H', H p = none → Nx [] B H B' H' → Dp K B' (.ref p) (.tuple ds) → B' p = some (.frz o (.tup xs)) → TupO o → Q (.ref p) H') : rNewF xs H Q :=
  ⟨sz_of (by rw [Dps.len hd]; exact hz), fun p o hp to => q p o _ _ hp (Nx.new e hp) (fz_dp e hp hd) upd_same to⟩
theorem sx_tupOfF {a : Addr} {xs : List V} {ds : List PyData} (e : Ex B H) (h : SqL K H a xs) (hd : DpAll K B xs ds) (q : ∀ p o B' H', H p = none → Nx [] B H B' H' → Dp K B' (.ref p) (.tuple ds) → B' p = some (.frz o (.tup xs)) → TupO o → Q (.ref p) H') : rTupF K [.ref a] H Q :=
  ⟨a, xs, rfl, h, fun p o hp to => q p o _ _ hp (Nx.new e hp) (fz_dp e hp hd) upd_same to⟩
theorem sx_revTF {a : Addr} {xs : List V} {ds : List PyData} (e : Ex B H) (h : SqT K H a xs) (hd : DpAll K B xs ds) (q : ∀ p o B' H', H p = none → Nx [] B H B' H' → Dp K B' (.ref p) (.tuple ds.reverse) → B' p = some (.frz o (.tup xs.reverse)) → TupO o → Q (.ref p) H') : rRevT K (.ref a) H Q :=
  ⟨a, xs, rfl, h, fun p o hp to => q p o _ _ hp (Nx.new e hp) (fz_dp e hp (Dps.rev hd)) upd_same to⟩
theorem sx_dictT {a : Addr} {o : Obj} {ps : List Addr} {kvs : List (Key × V)} (e : Ex B H) (hb : B a = some (.frz o (.tup (ps.map V.ref)))) (to : TupO o) (hp : Paired (fun p kv => SqT K B p [kV kv.1, kv.2]) ps kvs)
    (q : ∀ p B' H', H p = none → Nx [] B H B' H' → B' p = some (.dK (mergeK [] kvs)) → Q (.ref p) H') : rDictT K [.ref a] H Q :=
  ⟨a, o, ps, kvs, rfl, e _ _ hb, to, Paired.mapP hp fun _ _ z => e.t z, fun p h => q p _ _ h (Nx.new e h) upd_same⟩
theorem sx_dget {td ty : TE} (q : td σ H fun x H1 => ty σ H1 fun y H2 => ∃ a v, x = .ref a ∧ DGet H2 a y (some v) ∧ Q v H2) : tDGet td ty σ H Q := q
theorem sx_dgetS {a : Addr} {kvs : List (Key × V)} {z : Str} {v : V} (e : Ex B H) (hb : B a = some (.dK kvs)) (hv : valV kvs (.inr z) = some v) {Q : V → Prop} (q : Q v) : ∃ a' v, V.ref a = .ref a' ∧ DGet H a' (.str z) (some v) ∧ Q v :=
  ⟨a, v, rfl, by
    have := DGet.k (k := Sum.inr z) (e _ _ hb)
    rw [hv] at this
    exact this, q⟩
/-! ### a dict of the top, texts to defs -/
def KFn (K : PySem.W.Frag) (w : World) (mg : Str → Option Value) (a : Addr) (k x : Str) : Prop := ∃ f, mg x = some (.ref f) ∧ KDct K w a k (.ref f)
def tGD (K : PySem.W.Frag) (w : World) (mg : Str → Option Value) (ps : List (Str × Str)) : TE := fun _ H Q => ∀ a, (∀ q ∈ ps, KFn K w mg a q.1 q.2) → Q (.ref a) H
theorem pe_gD {X : Cx} {x : Str} {pos : Pos} {ps : List (Str × Str)} (hg : Gl X x) (g : ∃ a, X.mg x = some (.ref a) ∧ ∀ q ∈ ps, KFn X.K X.w X.mg a q.1 q.2) (hd : (x == ("__debug__" : Str)) = false := by decide) : PE X (.Name x pos) (tGD X.K X.w X.mg ps) := by
  obtain ⟨a, g, h⟩ := g
  refine ⟨fun pins s σ H Q I q => ld_glob I hg g ⟨.ref a, H, I, rfl, q a h⟩ hd⟩
theorem sx_GD {w : World} {mg : Str → Option Value} {ps : List (Str × Str)} (q : ∀ a, (∀ q ∈ ps, KFn K w mg a q.1 q.2) → Q (.ref a) H) : tGD K w mg ps σ H Q := q
theorem sx_ixKD {w : World} {a : Addr} {z : Str} {v : V} (h : KDct K w a z v) (q : Q v H) : rIxD K w (.ref a) (.str z) H Q := ⟨a, z, v, rfl, rfl, h, q⟩
/-! ### a call of a local that holds a def -/
def tCallV (P : Program) (w : World) (K : PySem.W.Frag) (mg : Str → Option Value) (base : Heap) (k i : Nat) (t : TA) : TE := fun σ H Q => ∃ f sp, σ[i]? = some (some (.ref f)) ∧ Held P w K mg base k f sp ∧ t σ H fun vs H1 => sp vs H1 Q (fun _ _ _ => False)
theorem pe_callV {X : Cx} {k i j : Nat} {x : Str} {p pos : Pos} {e : Expr} {es : List Expr} (hr : Room j X.A) (hk : k ≤ j) (hN : X.N[i]? = some x) (hv : Vis X.env.scope x) (ha : PA X (e :: es) t)
    (hdb : (x == ("__debug__" : Str)) = false := by decide) (hcd : (x == ("__classdict__" : Str)) = false := by decide)
    (he : starEach (e :: es) X.env = (false, eval e X.env) :: starEach es X.env := by rfl) (hpl : (backTo pos (starEach es X.env)).any (·.1) = false := by rfl) : PE X (.Call (.Name x p) (e :: es) [] pos) (tCallV X.prog X.w X.K X.mg X.base k i t) := by
  refine ⟨fun pins s σ H Q I h => ?_⟩
  obtain ⟨f, sp, hs, ⟨fd, ps, F, hk2, hb⟩, ht⟩ := h
  refine (pe_callL (i := i) (f := f) (sp := sp) (dvs := []) (E := fun _ _ _ => False) F (hr.mono hk) hN hv hk2 hb .nil (fun _ _ _ _ _ _ _ z => z.elim) ha hdb hcd he hpl).run pins s σ H Q I ⟨hs, ?_⟩
  have e0 : (fun (vs : List V) (H1 : Hp) => sp (vs ++ []) H1 Q (fun _ _ _ => False)) = fun vs H1 => sp vs H1 Q (fun _ _ _ => False) := by
    funext vs H1
    rw [List.append_nil]
  show t σ H (fun vs H1 => sp (vs ++ []) H1 Q (fun _ _ _ => False))
  rw [e0]
  exact ht
theorem sx_callV {P : Program} {w : World} {mg : Str → Option Value} {base : Heap} {k i : Nat} {f : Addr} {sp : Sp} (hs : σ[i]? = some (some (.ref f))) (h : Held P w K mg base k f sp) (q : t σ H fun vs H1 => sp vs H1 Q (fun _ _ _ => False)) : tCallV P w K mg base k i t σ H Q := ⟨f, sp, hs, h, q⟩
theorem Has.held {P : Program} {w : World} {mg : Str → Option Value} {base : Heap} {x : Str} {st : Stmt} {k : Nat} {ps : List Str} {sp : Sp} {f : Addr} (h : Has P w K mg base x st k ps sp) (hf : mg x = some (.ref f)) : Held P w K mg base k f sp := by
  obtain ⟨f', fd, F, m, n, b⟩ := h
  rw [hf] at m
  have e : f = f' := by injection m with m; injection m
  subst e
  exact ⟨fd, ps, F, n.kp, b⟩
end
/-! ### calls by keywords alone -/
def gsw {α : Type} : List α → List α → List α
  | [], [a, b] => [b, a]
  | _, _ => []
theorem kb_swap {K : PySem.W.Frag} {x p1 p2 : Str} {st : Stmt} (hb : ∀ (kV doc pm : Value) (an : Option Addr) (cdv ct a b : Value), bindArgs (PySem.W.fnOf x x (defArgs st) (defBody st) (defScope st) .none kV doc pm an cdv ct) ⟨[], [(p2, a), (p1, b)]⟩ = pure [(p1, b), (p2, a)]) :
    ∀ f fd, Fun K x x st f fd → KBinds K fd [p1, p2] [p2, p1] gsw gsw := fun f fd F => by
  obtain ⟨oc, od, kV, doc, pm, an, cdv, ct, osl, rfl, lk, hcd⟩ := F.ex
  refine ⟨fun s us ws _ hl => ?_, fun {vs us zs ws} r rz => ?_⟩
  · match us, ws, hl with
    | [], [a, b], hl => exact .of_eq (hb kV doc pm an cdv ct a b)
  · cases r with
    | cons _ _ => exact .nil
    | nil =>
      cases rz with
      | nil => exact .nil
      | cons h t =>
        cases t with
        | nil => exact .nil
        | cons h2 t2 =>
          cases t2 with
          | nil => exact .cons h2 (.cons h .nil)
          | cons h3 t3 => exact .nil
section
variable {X : Cx} {x : Str} {st : Stmt} {k j : Nat} {ps ks : List Str} {sp : Sp} {p pos : Pos} {kws : List Keyword} {tk : TA} {g : List Value → List Value → List Value} {gV : List V → List V → List V}
theorem pe_callK0H (F : Has X.prog X.w X.K X.mg X.base x st k ps sp) (kb : ∀ f fd, Fun X.K x x st f fd → KBinds X.K fd ps ks g gV) (hr : Room j X.A) (hg : Gl X x) (hkw : PK X kws tk) (hk : k ≤ j := by decide)
    (hall : (backToKw pos (keywordEach kws X.env)).all (·.1.isSome) = true := by rfl) (hks : (backToKw pos (keywordEach kws X.env)).filterMap (·.1) = ks := by rfl) (hdb : (x == ("__debug__" : Str)) = false := by decide)
    (hpl : ((backTo pos (starEach [] X.env)).any (·.1) || (backToKw pos (keywordEach kws X.env)).any (·.1.isNone)) = false := by rfl) :
    PE X (.Call (.Name x p) [] kws pos) (tCallK sp gV E0 tNil tk) := by
  obtain ⟨f, fd, F, m, fn, b⟩ := F
  refine ⟨fun pins s σ H Q I h => ?_⟩
  refine wpAny_Call_Name_kw (ld_glob I hg m ?_ hdb)
  refine PySem.W.callWith_KW0 (h₀ := X.base) I.ok.mod.kin fn.kp hall ?_ hpl
  have h : tk σ H fun zs H2 => sp (gV [] zs) H2 Q E0 := h
  refine thn (hkw.run pos pins s σ H _ I h) fun ws s2 ⟨zs, H2, I2, rz, q2⟩ => ⟨I2.kIn, ?_⟩
  rw [hks]
  exact run_fnk F (hr.mono hk) (kb f fd fn) pass0 I2 .nil rz q2
theorem sx_callK {σ : L2.St} {H : Hp} {Q : VK} {E : XK} (q : tk σ H fun zs H2 => sp (gV [] zs) H2 Q E) : tCallK sp gV E tNil tk σ H Q := q
end
end G

namespace G
open PySem L2
/-! ### draws: a list of a list of numbers and a number -/
def big : Int := 10 ^ 384
structure Deal (B H : Hp) (d l : Addr) : Prop where
  ex : ∃ (cs : List Int) (mix : Int), Mu B H d [.ref l, .int mix] ∧ Mu B H l (cs.map V.int) ∧ (∀ c ∈ cs, 0 ≤ c ∧ c < big) ∧ cs.length ≤ 63 ∧ 0 ≤ mix ∧ mix < 2147483647
theorem Deal.ne {B H : Hp} {d l : Addr} (h : Deal B H d l) : d ≠ l := by
  obtain ⟨cs, mix, m1, m2, _⟩ := h
  intro e
  subst e
  have := m1.h.symm.trans m2.h
  cases cs with
  | nil => cases this
  | cons c r => cases this
theorem Deal.off {B H : Hp} {d l p : Addr} (h : Deal B H d l) (hp : H p = none) : p ≠ d ∧ p ≠ l := by
  obtain ⟨cs, mix, m1, m2, _⟩ := h
  exact ⟨m1.ne hp, m2.ne hp⟩
theorem Deal.up {M : List Addr} {B H B' H' : Hp} {d l : Addr} (h : Deal B H d l) (n : Nx M B H B' H') (hm : d ∉ M ∧ l ∉ M := by simp) : Deal B' H' d l := by
  obtain ⟨cs, mix, m1, m2, r⟩ := h
  exact ⟨cs, mix, m1.up n hm.1, m2.up n hm.2, r⟩
theorem Deal.in {B H : Hp} {d l : Addr} (h : Deal B H d l) : ∀ a ∈ [d, l], H a ≠ none := by
  obtain ⟨cs, mix, m1, m2, _⟩ := h
  intro a ha
  simp only [List.mem_cons, List.not_mem_nil, or_false] at ha
  rcases ha with rfl | rfl
  · rw [m1.h]; exact fun z => nomatch z
  · rw [m2.h]; exact fun z => nomatch z
/-- steps of draws -/
theorem Deal.tr {B H B1 H1 B2 H2 : Hp} {d l : Addr} (m : Nx [d, l] B H B1 H1) (k : Deal B1 H1 d l) (n : Nx [d, l] B1 H1 B2 H2) : Nx [d, l] B H B2 H2 := m.trans n fun a ha _ => k.in a ha
theorem Nx.go {M N : List Addr} {B H B1 H1 B2 H2 : Hp} (n : Nx M B H B1 H1) (m : Nx N B1 H1 B2 H2) (hN : ∀ a ∈ N, a ∈ M ∨ H a = none) (hM : ∀ a ∈ M, H a ≠ none → H1 a ≠ none) : Nx M B H B2 H2 :=
  ⟨n.b.trans m.b, m.h, fun a o h q => m.k a o (n.k a o h q) fun z => (by
    rcases hN a z with h1 | h1
    · exact q h1
    · rw [h1] at h; cases h), fun a h q => m.f a (n.f a h q) (by
    by_cases z : a ∈ M
    · exact hM a z q
    · intro y
      cases e : H a with
      | none => exact q e
      | some o => rw [n.k a o e z] at y; cases y)⟩
/-- a step behind draws -/
theorem Deal.go {N : List Addr} {B H B1 H1 B2 H2 : Hp} {d l : Addr} (n : Nx [d, l] B H B1 H1) (D : Deal B1 H1 d l) (m : Nx N B1 H1 B2 H2) (hN : ∀ a ∈ N, a ∈ [d, l] ∨ H a = none := by simp) : Nx [d, l] B H B2 H2 := n.go m hN fun a ha _ => D.in a ha
/-- pure first, then draws -/
theorem Deal.via {B H B1 H1 B2 H2 : Hp} {d l : Addr} (n : Nx [] B H B1 H1) (D : Deal B1 H1 d l) (m : Nx [d, l] B1 H1 B2 H2) : Nx [d, l] B H B2 H2 := (n.wk (by simp)).trans m fun a ha _ => D.in a ha
end G
namespace C
open PySem L2 G
/-! ### the text by places -/
def top (i : Nat) : Stmt := PySem.Challenge.pw_typedback_k01_whether_conditions_hold.main.body.getD i (.Pass ⟨0, 0, 0, 0⟩)
abbrev s_is_integer : Stmt := top 1
abbrev s_is_positive : Stmt := top 2
abbrev s_is_word_first : Stmt := top 14
abbrev s_plain_parts : Stmt := top 15
abbrev s_expression_parts : Stmt := top 16
abbrev s_condition_parts : Stmt := top 17
abbrev s_are_right : Stmt := top 18
abbrev s_is_condition : Stmt := top 19
abbrev s_things_of : Stmt := top 20
abbrev s_steps_of : Stmt := top 21
abbrev s_do_plus : Stmt := top 22
abbrev s_do_less : Stmt := top 23
abbrev s_do_times : Stmt := top 24
abbrev s_do_min : Stmt := top 25
abbrev s_do_max : Stmt := top 26
abbrev s_do_same : Stmt := top 27
abbrev s_do_below : Stmt := top 28
abbrev s_do_and : Stmt := top 29
abbrev s_do_or : Stmt := top 30
abbrev s_do_step : Stmt := top 32
abbrev s_reckoned : Stmt := top 33
abbrev s_holds : Stmt := top 34
abbrev s_law_deal : Stmt := top 36
abbrev s_law_any : Stmt := top 37
abbrev s_law_of : Stmt := top 38
abbrev s_law_is_kind : Stmt := top 39
abbrev s_law_same : Stmt := top 40
abbrev s_law_all : Stmt := top 41
abbrev s_law_leaf : Stmt := top 42
abbrev s_law_sum_of : Stmt := top 43
abbrev s_law_test_of : Stmt := top 44
abbrev s_law_joined : Stmt := top 45
abbrev s_law_halved : Stmt := top 46
abbrev s_law_worth_of : Stmt := top 47
abbrev s_law : Stmt := top 48
structure Txt (w : World) (K : PySem.W.Frag) (mg : Str → Option Value) : Prop where
  d_is_integer : Df K mg "is_integer" s_is_integer
  d_is_positive : Df K mg "is_positive" s_is_positive
  d_is_word_first : Df K mg "is_word_first" s_is_word_first
  d_plain_parts : Df K mg "plain_parts" s_plain_parts
  d_expression_parts : Df K mg "expression_parts" s_expression_parts
  d_condition_parts : Df K mg "condition_parts" s_condition_parts
  d_are_right : Df K mg "are_right" s_are_right
  d_is_condition : Df K mg "is_condition" s_is_condition
  d_things_of : Df K mg "things_of" s_things_of
  d_steps_of : Df K mg "steps_of" s_steps_of
  d_do_plus : Df K mg "do_plus" s_do_plus
  d_do_less : Df K mg "do_less" s_do_less
  d_do_times : Df K mg "do_times" s_do_times
  d_do_min : Df K mg "do_min" s_do_min
  d_do_max : Df K mg "do_max" s_do_max
  d_do_same : Df K mg "do_same" s_do_same
  d_do_below : Df K mg "do_below" s_do_below
  d_do_and : Df K mg "do_and" s_do_and
  d_do_or : Df K mg "do_or" s_do_or
  d_do_step : Df K mg "do_step" s_do_step
  d_reckoned : Df K mg "reckoned" s_reckoned
  d_holds : Df K mg "holds" s_holds
  d_law_deal : Df K mg "_law_deal" s_law_deal
  d_law_any : Df K mg "_law_any" s_law_any
  d_law_of : Df K mg "_law_of" s_law_of
  d_law_is_kind : Df K mg "_law_is_kind" s_law_is_kind
  d_law_same : Df K mg "_law_same" s_law_same
  d_law_all : Df K mg "_law_all" s_law_all
  d_law_leaf : Df K mg "_law_leaf" s_law_leaf
  d_law_sum_of : Df K mg "_law_sum_of" s_law_sum_of
  d_law_test_of : Df K mg "_law_test_of" s_law_test_of
  d_law_joined : Df K mg "_law_joined" s_law_joined
  d_law_halved : Df K mg "_law_halved" s_law_halved
  d_law_worth_of : Df K mg "_law_worth_of" s_law_worth_of
  d_law : Df K mg "law" s_law
  b_abs : mg "abs" = none
  b_bool : mg "bool" = none
  b_dict : mg "dict" = none
  b_int : mg "int" = none
  b_isinstance : mg "isinstance" = none
  b_len : mg "len" = none
  b_list : mg "list" = none
  b_max : mg "max" = none
  b_min : mg "min" = none
  b_range : mg "range" = none
  b_sorted : mg "sorted" = none
  b_str : mg "str" = none
  b_tuple : mg "tuple" = none
  g_NUMBER : ∃ t, mg "NUMBER" = some (.str "number" t)
  g_FIELD : ∃ t, mg "FIELD" = some (.str "field" t)
  g_PAIRED : ∃ a, mg "PAIRED" = some (.ref a) ∧ ∀ H', SqT K H' a [.str "plus", .str "less", .str "times", .str "min", .str "max"]
  g_CUT : ∃ a, mg "CUT" = some (.ref a) ∧ ∀ H', SqT K H' a [.str "div", .str "rest"]
  g_COMPARED : ∃ a, mg "COMPARED" = some (.ref a) ∧ ∀ H', SqT K H' a [.str "same", .str "below"]
  g_JOINED : ∃ a, mg "JOINED" = some (.ref a) ∧ ∀ H', SqT K H' a [.str "and", .str "or"]
  g_NOT : ∃ t, mg "NOT" = some (.str "not" t)
  g_STEP : ∃ t, mg "STEP" = some (.str "step" t)
  g_EXPRESSION : ∃ t, mg "EXPRESSION" = some (.str "expression" t)
  g_CONDITION : ∃ t, mg "CONDITION" = some (.str "condition" t)
  g_WORKS : ∃ a, mg "WORKS" = some (.ref a) ∧ ∀ q ∈ ([("plus", "do_plus"), ("less", "do_less"), ("times", "do_times"), ("min", "do_min"), ("max", "do_max"), ("same", "do_same"), ("below", "do_below"), ("and", "do_and"), ("or", "do_or")] : List (Str × Str)), KFn K w mg a q.1 q.2
theorem sc_is_integer : FnScope ["value"] ["value"] (defScope s_is_integer) := ⟨rfl, rfl, rfl, by decide +kernel, rfl, by decide +kernel, by decide +kernel⟩
theorem sc_is_positive : FnScope ["value"] ["value"] (defScope s_is_positive) := ⟨rfl, rfl, rfl, by decide +kernel, rfl, by decide +kernel, by decide +kernel⟩
theorem sc_is_word_first : FnScope ["value"] ["value"] (defScope s_is_word_first) := ⟨rfl, rfl, rfl, by decide +kernel, rfl, by decide +kernel, by decide +kernel⟩
theorem sc_plain_parts : FnScope ["names", "value"] ["names", "value"] (defScope s_plain_parts) := ⟨rfl, rfl, rfl, by decide +kernel, rfl, by decide +kernel, by decide +kernel⟩
theorem sc_expression_parts : FnScope ["names", "value", "word"] ["names", "value"] (defScope s_expression_parts) := ⟨rfl, rfl, rfl, by decide +kernel, rfl, by decide +kernel, by decide +kernel⟩
theorem sc_condition_parts : FnScope ["value", "word", "sort"] ["value"] (defScope s_condition_parts) := ⟨rfl, rfl, rfl, by decide +kernel, rfl, by decide +kernel, by decide +kernel⟩
theorem sc_are_right : FnScope ["names", "todo", "sort", "value", "parts"] ["names", "todo"] (defScope s_are_right) := ⟨rfl, rfl, rfl, by decide +kernel, rfl, by decide +kernel, by decide +kernel⟩
theorem sc_is_condition : FnScope ["names", "value"] ["names", "value"] (defScope s_is_condition) := ⟨rfl, rfl, rfl, by decide +kernel, rfl, by decide +kernel, by decide +kernel⟩
theorem sc_things_of : FnScope ["thing", "word"] ["thing"] (defScope s_things_of) := ⟨rfl, rfl, rfl, by decide +kernel, rfl, by decide +kernel, by decide +kernel⟩
theorem sc_steps_of : FnScope ["thing", "found", "todo", "one"] ["thing"] (defScope s_steps_of) := ⟨rfl, rfl, rfl, by decide +kernel, rfl, by decide +kernel, by decide +kernel⟩
theorem sc_do_plus : FnScope ["one", "other"] ["one", "other"] (defScope s_do_plus) := ⟨rfl, rfl, rfl, by decide +kernel, rfl, by decide +kernel, by decide +kernel⟩
theorem sc_do_less : FnScope ["one", "other"] ["one", "other"] (defScope s_do_less) := ⟨rfl, rfl, rfl, by decide +kernel, rfl, by decide +kernel, by decide +kernel⟩
theorem sc_do_times : FnScope ["one", "other"] ["one", "other"] (defScope s_do_times) := ⟨rfl, rfl, rfl, by decide +kernel, rfl, by decide +kernel, by decide +kernel⟩
theorem sc_do_min : FnScope ["one", "other"] ["one", "other"] (defScope s_do_min) := ⟨rfl, rfl, rfl, by decide +kernel, rfl, by decide +kernel, by decide +kernel⟩
theorem sc_do_max : FnScope ["one", "other"] ["one", "other"] (defScope s_do_max) := ⟨rfl, rfl, rfl, by decide +kernel, rfl, by decide +kernel, by decide +kernel⟩
theorem sc_do_same : FnScope ["one", "other"] ["one", "other"] (defScope s_do_same) := ⟨rfl, rfl, rfl, by decide +kernel, rfl, by decide +kernel, by decide +kernel⟩
theorem sc_do_below : FnScope ["one", "other"] ["one", "other"] (defScope s_do_below) := ⟨rfl, rfl, rfl, by decide +kernel, rfl, by decide +kernel, by decide +kernel⟩
theorem sc_do_and : FnScope ["one", "other"] ["one", "other"] (defScope s_do_and) := ⟨rfl, rfl, rfl, by decide +kernel, rfl, by decide +kernel, by decide +kernel⟩
theorem sc_do_or : FnScope ["one", "other"] ["one", "other"] (defScope s_do_or) := ⟨rfl, rfl, rfl, by decide +kernel, rfl, by decide +kernel, by decide +kernel⟩
theorem sc_do_step : FnScope ["found", "word", "number", "last", "work"] ["found", "word", "number"] (defScope s_do_step) := ⟨rfl, rfl, rfl, by decide +kernel, rfl, by decide +kernel, by decide +kernel⟩
theorem sc_reckoned : FnScope ["thing", "worths", "told", "found", "step"] ["thing", "worths"] (defScope s_reckoned) := ⟨rfl, rfl, rfl, by decide +kernel, rfl, by decide +kernel, by decide +kernel⟩
theorem sc_holds : FnScope ["condition", "worths"] ["condition", "worths"] (defScope s_holds) := ⟨rfl, rfl, rfl, by decide +kernel, rfl, by decide +kernel, by decide +kernel⟩
theorem sc_law_deal : FnScope ["script", "salt", "most", "cells", "cell", "mix"] ["script", "salt"] (defScope s_law_deal) := ⟨rfl, rfl, rfl, by decide +kernel, rfl, by decide +kernel, by decide +kernel⟩
theorem sc_law_any : FnScope ["deal", "bound", "rest"] ["deal", "bound"] (defScope s_law_any) := ⟨rfl, rfl, rfl, by decide +kernel, rfl, by decide +kernel, by decide +kernel⟩
theorem sc_law_of : FnScope ["deal", "some"] ["deal", "some"] (defScope s_law_of) := ⟨rfl, rfl, rfl, by decide +kernel, rfl, by decide +kernel, by decide +kernel⟩
theorem sc_law_is_kind : FnScope ["told", "due"] ["told", "due"] (defScope s_law_is_kind) := ⟨rfl, rfl, rfl, by decide +kernel, rfl, by decide +kernel, by decide +kernel⟩
theorem sc_law_same : FnScope ["told", "due", "todo", "one", "other", "at"] ["told", "due"] (defScope s_law_same) := ⟨rfl, rfl, rfl, by decide +kernel, rfl, by decide +kernel, by decide +kernel⟩
theorem sc_law_all : FnScope ["pairs", "told", "due"] ["pairs"] (defScope s_law_all) := ⟨rfl, rfl, rfl, by decide +kernel, rfl, by decide +kernel, by decide +kernel⟩
theorem sc_law_leaf : FnScope ["deal", "names"] ["deal", "names"] (defScope s_law_leaf) := ⟨rfl, rfl, rfl, by decide +kernel, rfl, by decide +kernel, by decide +kernel⟩
theorem sc_law_sum_of : FnScope ["deal", "names", "joins", "heap", "turn", "one", "other", "made"] ["deal", "names", "joins"] (defScope s_law_sum_of) := ⟨rfl, rfl, rfl, by decide +kernel, rfl, by decide +kernel, by decide +kernel⟩
theorem sc_law_test_of : FnScope ["deal", "names", "joins", "heap", "turn", "test", "one", "other", "made"] ["deal", "names", "joins"] (defScope s_law_test_of) := ⟨rfl, rfl, rfl, by decide +kernel, rfl, by decide +kernel, by decide +kernel⟩
theorem sc_law_joined : FnScope ["word", "one", "other"] ["word", "one", "other"] (defScope s_law_joined) := ⟨rfl, rfl, rfl, by decide +kernel, rfl, by decide +kernel, by decide +kernel⟩
theorem sc_law_halved : FnScope ["word", "one", "number", "left"] ["word", "one", "number"] (defScope s_law_halved) := ⟨rfl, rfl, rfl, by decide +kernel, rfl, by decide +kernel, by decide +kernel⟩
theorem sc_law_worth_of : FnScope ["thing", "told", "todo", "found", "one", "seen", "parts", "part", "last"] ["thing", "told"] (defScope s_law_worth_of) := ⟨rfl, rfl, rfl, by decide +kernel, rfl, by decide +kernel, by decide +kernel⟩
theorem sc_law : FnScope ["script", "deal", "pairs", "turn", "names", "test", "late", "again", "worths", "name", "one", "other", "both", "some", "a", "b"] ["script"] (defScope s_law) := ⟨rfl, rfl, rfl, by decide +kernel, rfl, by decide +kernel, by decide +kernel⟩
end C
local macro_rules | `(tactic| walk_at "exs") => `(tactic| repeat (first | with_reducible exact G.Ex.refl _ | with_reducible assumption | with_reducible exact G.Nx.b (by with_reducible assumption) | with_reducible exact G.Nx.h (by with_reducible assumption) | (refine G.Ex.trans ?_ (G.Nx.b (by with_reducible assumption)))))
local macro_rules | `(tactic| walk_at "e") => `(tactic| first | with_reducible assumption | exact G.Nx.h (by with_reducible assumption))
local macro_rules | `(tactic| walk_at "d") => `(tactic| first | with_reducible assumption | (refine G.Dp.up (B := ?_) ?_ (by with_reducible assumption); walk_at "exs") | (refine G.Dps.up (B := ?_) ?_ (by with_reducible assumption); walk_at "exs"))
local macro_rules | `(tactic| walk_at "sx2") => `(tactic| first
  | (with_reducible refine G.sx_mod ?h ?_; (case h => first | omega | assumption))
  | (with_reducible refine G.sx_div ?h ?h1 ?_; (case h => first | omega | assumption); (case h1 => first | omega | assumption))
  | (with_reducible refine G.sx_mul64 ?h ?h1 ?_; (case h => omega); (case h1 => omega)))
local macro_rules | `(tactic| walk_at "sx1") => `(tactic| with_reducible (first
  | refine G.sx_seq ?_ | refine G.sx_asg ?_ | refine G.sx_gname ?_ | refine G.sx_drop ?_ | refine G.sx_ret ?_ | refine G.sx_retN ?_ | refine G.sx_ifS ?_ | refine G.sx_next ?_ | refine G.sx_par ?_ | refine G.sx_par2 ?_ | refine G.sx_lcL ?_ | refine G.sx_lcT ?_ | refine G.sx_lcR ?_ | refine G.sx_forL ?_ | refine G.sx_forT ?_ | refine G.sx_forR ?_ | refine G.sx_forR2 ?_ | refine G.sx_sl ?_ | refine G.sx_noPart ?_ | refine G.sx_part ?_ | refine G.sx_isI ?_ | refine G.sx_revL ?_
  | refine G.sx_var rfl ?_ | refine G.sx_c ?_ | refine G.sx_op ?_ | refine G.sx_un ?_ | refine G.sx_I0 ?_ | refine G.sx_U ?_ | refine G.sx_isBV ?_ | refine G.sx_isN ?_ | refine G.sx_notN ?_ | refine G.sx_test ?_ | refine G.sx_tB ?_ | refine G.sx_isB ?_
  | refine G.sx_not ?_ | refine G.sx_and ?_ | refine G.sx_or ?_ | refine G.sx_andV ?_ | refine G.sx_orV ?_ | refine G.sx_notV ?_ | refine G.sx_if ?_ | refine G.sx_nil ?_ | refine G.sx_cons ?_ | refine G.sx_cb ?_ | refine G.sx_call ?_
  | refine G.sx_ixL (G.Mu.sq (by with_reducible assumption)) rfl ?_ | refine G.sx_ixL (by with_reducible assumption) rfl ?_ | refine G.sx_ixT (by with_reducible assumption) rfl ?_
  | refine G.sx_isInt (by walk_at "d") (by walk_at "e") ?_ | refine G.sx_isBool (by walk_at "d") (by walk_at "e") ?_ | refine G.sx_isStr (by walk_at "d") (by walk_at "e") ?_ | refine G.sx_isTup (by walk_at "d") (by walk_at "e") ?_ | refine G.sx_isList (by walk_at "d") (by walk_at "e") ?_ | refine G.sx_isDict (by walk_at "d") (by walk_at "e") ?_
  | refine G.sx_bm0 ?_ | refine G.sx_bm ?_ | refine G.sx_tyL (by with_reducible assumption) ?_ | refine G.sx_tyL (G.Mu.sq (by with_reducible assumption)) ?_ | refine G.sx_gsub ?_ | refine G.sx_GT ?_ | refine G.sx_GD ?_ | refine G.sx_yes ?_ | refine G.sx_tupF ?_ | refine G.sx_revT ?_ | refine G.sx_callK ?_ | refine G.sx_dget ?_ | refine G.sx_tup ?_ | refine G.sx_lst ?_
  | refine G.sx_lenL (by with_reducible assumption) ?_ | refine G.sx_lenL (G.Mu.sq (by with_reducible assumption)) ?_ | refine G.sx_int ?_ | refine G.sx_abs ?_ | refine G.sx_min ?_ | refine G.sx_max ?_ | refine G.sx_eq rfl ?_ | refine G.sx_ne rfl ?_))
local macro_rules | `(tactic| walk_at "sx") => `(tactic| repeat (first | walk_at "sx1" | walk_at "sx2"))
local macro_rules | `(tactic| walk_at "st") => `(tactic| simp only [List.set_cons_zero, List.set_cons_succ, L2.wipe, List.map_cons, List.map_nil])
local macro_rules | `(tactic| walk_at "go") => `(tactic| ((try dsimp only [L2.cxOf, L2.Cx.nox, L2.Cx.wish]); simp only [L2.start, List.map_cons, List.map_nil, List.length_cons, List.length_nil, Nat.zero_add, Nat.reduceAdd, Nat.reduceSub, List.reduceReplicate, List.cons_append, List.nil_append]; walk_at "sx"))
namespace C
open PySem L2 G
section
variable {P : Program} {w : World} {K : PySem.W.Frag} {mg : Str → Option Value} {base : Heap}
/-- _law_any: a number below a bound -/
def spAny : Sp := fun vs H Q _ => ∃ (B : Hp) (d l : Addr) (b : Int), vs = [.ref d, .int b] ∧ Ex B H ∧ Deal B H d l ∧ 0 < b ∧ b < 1073741824 ∧
  ∀ B' H' r, Nx [d, l] B H B' H' → Deal B' H' d l → 0 ≤ r → r < b → Q (.int r) H'
theorem ok_law_any (T : Txt w K mg) : Has P w K mg base "_law_any" s_law_any 1 ["deal", "bound"] spAny := by
  refine has_mk T.d_law_any sc_law_any (fun _ _ _ _ _ _ us hl => match us, hl with | [_, _], _ => rfl) (fun vs H Q E h => ?_) (fun f cdv A outer s H vs Q E hr h => ?_)
  · obtain ⟨_, _, _, _, rfl, _⟩ := h
    rfl
  · obtain ⟨B, d, l, b, rfl, e, hD, b0, b1, k⟩ := h
    refine ⟨_, (G.pss_cut (ps_while PassesOwn.never (PW.pt (pw_and (pt_cmpR op_gt (pe_callB cl_len (by rfl) T.b_len (by decide +kernel) (pa_cons (pe_ix ix_list (pv 0) pe_int (fun _ _ => rfl)) pa_nil)) pe_int (nomark _)) (pw_and1 (pt_cmpR op_eq (pe_ix ix_list (pe_ix ix_list (pv 0) pe_int (fun _ _ => rfl)) (pe_un un_neg pe_int) (fun _ _ => rfl)) pe_int (nomark _)))))
      (pss_one (ps_expr (pe_bm0 PySem.F.plainAttrs_list PySem.F.slot_list_pop PySem.F.type_list_pop mt_pop (pe_ix ix_list (pv 0) pe_int (fun _ _ => rfl))))))
      (pss_cons (ps_if (pt_cmpR op_gt (pe_callB cl_len (by rfl) T.b_len (by decide +kernel) (pa_cons (pe_ix ix_list (pv 0) pe_int (fun _ _ => rfl)) pa_nil)) pe_int (nomark _))
      (pss_cons (ps_set (i := 2) sc_law_any.nd rfl (.inl rfl) (pe_callTy cl_int (by rfl) T.b_int (by decide +kernel) (pa_cons (pe_bm0 PySem.F.plainAttrs_list PySem.F.slot_list_pop PySem.F.type_list_pop mt_pop (pe_ix ix_list (pv 0) pe_int (fun _ _ => rfl))) pa_nil)))
      (pss_cons (ps_expr (pe_bm PySem.F.plainAttrs_list PySem.F.slot_list_append PySem.F.type_list_append mt_append (pe_ix ix_list (pv 0) pe_int (fun _ _ => rfl)) (pa_cons (pe_op op_fdiv (pv 2) (pv 1)) pa_nil)))
      (pss_one (ps_ret (pe_op op_mod (pv 2) (pv 1))))))
      pss_nil)
      (pss_cons (ps_asg (pe_op op_mod (pe_callTy cl_int (by rfl) T.b_int (by decide +kernel) (pa_cons (pe_op op_add (pe_op op_mulW (pe_ix ix_list (pv 0) pe_int (fun _ _ => rfl)) pe_int) pe_int) pa_nil)) pe_int) (pg_sub (pv 0) pe_int set_list))
      (pss_one (ps_ret (pe_op op_mod (pe_callTy cl_int (by rfl) T.b_int (by decide +kernel) (pa_cons (pe_op op_fdiv (pe_ix ix_list (pv 0) pe_int (fun _ _ => rfl)) pe_int) pa_nil)) (pv 1))))))), ?_⟩
    have hne := hD.ne
    walk_at "go"
    refine G.sx_cut (fun σ H' => ∃ (B' : Hp) (cs : List Int) (mix : Int), σ = [some (.ref d), some (.int b), none] ∧ Nx [d, l] B H B' H' ∧ Mu B' H' d [.ref l, .int mix] ∧ Mu B' H' l (cs.map V.int) ∧ (∀ c ∈ cs, 0 ≤ c ∧ c < big) ∧ cs.length ≤ 63 ∧ 0 ≤ mix ∧ mix < 2147483647) ?_ ?_
    · refine ⟨fun m σ H' => ∃ (B' : Hp) (cs : List Int) (mix : Int), m = cs.length ∧ σ = [some (.ref d), some (.int b), none] ∧ Nx [d, l] B H B' H' ∧ Mu B' H' d [.ref l, .int mix] ∧ Mu B' H' l (cs.map V.int) ∧ (∀ c ∈ cs, 0 ≤ c ∧ c < big) ∧ cs.length ≤ 63 ∧ 0 ≤ mix ∧ mix < 2147483647, ?_, ?_⟩
      · obtain ⟨cs, mix, m1, m2, r1, r2, r3, r4⟩ := hD
        exact ⟨_, B, cs, mix, rfl, rfl, Nx.refl e, m1, m2, r1, r2, r3, r4⟩
      · rintro m σ H1 ⟨B1, cs, mix, rfl, rfl, n1, m1, m2, r1, r2, r3, r4⟩
        walk_at "sx"
        by_cases hz : cs = []
        · refine ifF (dF (by rw [hz]; simp)) ?_
          exact ⟨B1, cs, mix, rfl, n1, m1, m2, r1, r2, r3, r4⟩
        · obtain ⟨r, z, rfl⟩ := snoc_of hz
          have hin : ∀ a ∈ [d, l], H a ≠ none → H1 a ≠ none := fun a ha _ => (⟨_, _, m1, m2, r1, r2, r3, r4⟩ : Deal B1 H1 d l).in a ha
          refine ifT (dT (by simp)) ?_
          walk_at "sx"
          rw [List.map_append] at m2
          refine sx_ixL m2.sq atI_end ?_
          walk_at "sx"
          by_cases h0 : z = 0
          · refine ifT (int_eqT h0) ?_
            refine ⟨_, fun _ _ h => h, ?_⟩
            walk_at "sx"
            refine sx_pop m2 n1.h fun H2 n2 m2' => ?_
            refine ⟨r.length, by simp, B1, r, mix, rfl, rfl, n1.trans (n2.wk (by simp)) hin, m1.up n2 (by simp [hne]), by simpa using m2', fun c hc => r1 c (by simp [hc]), by simp at r2; omega, r3, r4⟩
          · refine ifF (int_eqF h0) ?_
            exact ⟨B1, r ++ [z], mix, rfl, n1, m1, by rw [List.map_append]; exact m2, r1, r2, r3, r4⟩
    · rintro σ H1 ⟨B1, cs, mix, rfl, n1, m1, m2, r1, r2, r3, r4⟩
      have hin : ∀ a ∈ [d, l], H a ≠ none → H1 a ≠ none := fun a ha _ => (⟨_, _, m1, m2, r1, r2, r3, r4⟩ : Deal B1 H1 d l).in a ha
      walk_at "sx"
      by_cases hz : cs = []
      · refine ifF (dF (by rw [hz]; simp)) ?_
        walk_at "sx"
        refine sx_setL m1 n1.h rfl fun H2 n2 m1' => ?_
        walk_at "sx"
        refine k B1 H2 _ (n1.trans (n2.wk (by simp)) hin) ⟨cs, _, m1', m2.up n2 (by simp [hne.symm]), r1, r2, ?_, ?_⟩ (Int.emod_nonneg _ (by omega)) (Int.emod_lt_of_pos _ b0)
        · exact Int.emod_nonneg _ (by omega)
        · exact Int.emod_lt_of_pos _ (by omega)
      · obtain ⟨r, z, rfl⟩ := snoc_of hz
        have z0 := r1 z (by simp)
        refine ifT (dT (by simp)) ?_
        rw [List.map_append] at m2
        walk_at "sx"
        refine sx_pop m2 n1.h fun H2 n2 m2' => ?_
        have m1' := m1.up n2 (by simp [hne])
        walk_at "sx"
        refine sx_append m2' n2.h (by simp at r2 ⊢; omega) fun H3 n3 m2'' => ?_
        have m1'' := m1'.up n3 (by simp [hne])
        walk_at "sx"
        refine k B1 H3 _ ((n1.trans (n2.wk (by simp)) hin).trans (n3.wk (by simp)) ?_) ⟨r ++ [z / b], mix, m1'', ?_, ?_, ?_, r3, r4⟩ (Int.emod_nonneg _ (by omega)) (Int.emod_lt_of_pos _ b0)
        · intro a ha _
          simp only [List.mem_cons, List.not_mem_nil, or_false] at ha
          rcases ha with rfl | rfl
          · rw [m1'.h]; exact fun z => nomatch z
          · rw [m2'.h]; exact fun z => nomatch z
        · rw [List.map_append]
          exact m2''
        · intro c hc
          rcases List.mem_append.mp hc with h | h
          · exact r1 c (by simp [h])
          · rw [List.mem_singleton] at h
            subst h
            exact ⟨Int.ediv_nonneg z0.1 (by omega), Int.lt_of_le_of_lt (Int.ediv_le_self b z0.1) z0.2⟩
        · simp at r2 ⊢
          omega
end
end C
namespace C
open PySem L2 G
section
variable {P : Program} {w : World} {K : PySem.W.Frag} {mg : Str → Option Value} {base : Heap}
/-- _law_of: one of some things -/
def spOf (K : PySem.W.Frag) : Sp := fun vs H Q _ => ∃ (B : Hp) (d l a : Addr) (xs : List V), vs = [.ref d, .ref a] ∧ Ex B H ∧ Deal B H d l ∧ SqL K H a xs ∧ a ≠ d ∧ a ≠ l ∧ 0 < xs.length ∧ xs.length < 100000 ∧
  ∀ B' H' (i : Nat) v, Nx [d, l] B H B' H' → Deal B' H' d l → xs[i]? = some v → Q v H'
theorem ok_law_of (T : Txt w K mg) : Has P w K mg base "_law_of" s_law_of 2 ["deal", "some"] (spOf K) := by
  refine has_mk T.d_law_of sc_law_of (fun _ _ _ _ _ _ us hl => match us, hl with | [_, _], _ => rfl) (fun vs H Q E h => ?_) (fun f cdv A outer s H vs Q E hr h => ?_)
  · obtain ⟨_, _, _, _, _, rfl, _⟩ := h
    rfl
  · obtain ⟨B, d, l, a, xs, rfl, e, hD, hS, ad, al, x0, x1, k⟩ := h
    refine ⟨_, (pss_one (ps_ret (pe_ix ix_list (pv 1) (pe_callH (ok_law_any T) hr (by rfl) (pa_cons (pv 0) (pa_cons (pe_callB cl_len (by rfl) T.b_len (by decide +kernel) (pa_cons (pv 1) pa_nil)) pa_nil))) (fun _ _ => rfl)))), ?_⟩
    walk_at "go"
    refine ⟨B, d, l, _, rfl, e, hD, by omega, by omega, fun B1 H1 r n1 D1 r0 r1 => ?_⟩
    obtain ⟨i, rfl⟩ : ∃ i : Nat, r = (i : Int) := ⟨r.toNat, by omega⟩
    have hi : i < xs.length := by omega
    refine sx_ixL (n1.sq hS (by simp [ad, al])) (atI_nat (List.getElem?_eq_getElem hi)) ?_
    exact k B1 H1 i _ n1 D1 (List.getElem?_eq_getElem hi)
end
end C
namespace C
open PySem L2 G
section
variable {P : Program} {w : World} {K : PySem.W.Frag} {mg : Str → Option Value} {base : Heap}
/-- _law_deal: where draws come from -/
def spDeal (K : PySem.W.Frag) : Sp := fun vs H Q _ => ∃ (B : Hp) (a : Addr) (ns : List Int) (z : Int), vs = [.ref a, .int z] ∧ Ex B H ∧ SqL K H a (ns.map V.int) ∧ ns.length ≤ 63 ∧ 0 ≤ z ∧ z < 100000 ∧
  ∀ B' H' d l, Nx [] B H B' H' → Deal B' H' d l → Q (.ref d) H'
theorem pow64 : (10 : Int) ^ (64 : Int).toNat = 10 ^ 64 := rfl
theorem big_eq : (10 : Int) ^ 64 * 10 ^ 64 * 10 ^ 64 * 10 ^ 64 * 10 ^ 64 * 10 ^ 64 = big := by decide +kernel
def cell1 (v : V) : V := match v with
  | .int i => .int ((if i < 0 then -i else i) % big)
  | v => v
def cellOk (v : V) : Bool := match v with
  | .int i => decide (10 ^ 18 ≤ i)
  | _ => false
theorem ok_law_deal (T : Txt w K mg) : Has P w K mg base "_law_deal" s_law_deal 1 ["script", "salt"] (spDeal K) := by
  refine has_mk T.d_law_deal sc_law_deal (fun _ _ _ _ _ _ us hl => match us, hl with | [_, _], _ => rfl) (fun vs H Q E h => ?_) (fun f cdv A outer s H vs Q E hr h => ?_)
  · obtain ⟨_, _, _, _, rfl, _⟩ := h
    rfl
  · obtain ⟨B, a, ns, z, rfl, e, hS, hlen, z0, z1, k⟩ := h
    refine ⟨_, (pss_cons (ps_set (i := 2) sc_law_deal.nd rfl (.inr rfl) (pe_op op_mulW (pe_op op_mulW (pe_op op_mulW (pe_op op_mulW (pe_op op_mulW (pe_op op_pow pe_int pe_int) (pe_op op_pow pe_int pe_int)) (pe_op op_pow pe_int pe_int)) (pe_op op_pow pe_int pe_int)) (pe_op op_pow pe_int pe_int)) (pe_op op_pow pe_int pe_int)))
      (pss_cons (ps_setLc (i := 3) (own := [("cell", 4)]) (g := (gName 4)) rfl sc_law_deal.nd rfl rfl (sw_true rfl rfl rfl (by decide +kernel)) (pi_list (pe_slice sl_list (pv 0) po_none (po_some pe_int))) (blkOk_by (own := [("cell", 4)]) (N := ["script", "salt", "most", "cells", "cell", "mix"]) (sc := defScope s_law_deal) (by decide +kernel)) (fun _ _ _ _ _ => pg_name (i := 4) sc_law_deal.nd rfl (.inl rfl)) (fun _ _ _ _ _ => pts_nil) (fun _ _ _ _ _ => (pe_op op_mod (pe_callTy cl_int (by rfl) T.b_int (by decide +kernel) (pa_cons (pe_callB cl_abs (by rfl) T.b_abs (by decide +kernel) (pa_cons (pe_callTy cl_int (by rfl) T.b_int (by decide +kernel) (pa_cons (pv 4) pa_nil)) pa_nil)) pa_nil)) (pv 2))))
      (pss_cons (ps_set (i := 5) sc_law_deal.nd rfl (.inl rfl) (pe_op op_add pe_int (pe_op op_mulW pe_int (pv 1))))
      (pss_cons (ps_for PassesOwn.never rfl (pi_list (pv 3)) (pg_name (i := 4) sc_law_deal.nd rfl (.inl rfl))
      (pss_one (ps_set (i := 5) sc_law_deal.nd rfl (.inl rfl) (pe_op op_mod (pe_callTy cl_int (by rfl) T.b_int (by decide +kernel) (pa_cons (pe_op op_add (pe_op op_add (pe_op op_mulW (pv 5) pe_int) (pe_op op_mod (pe_callTy cl_int (by rfl) T.b_int (by decide +kernel) (pa_cons (pv 4) pa_nil)) pe_int)) pe_int) pa_nil)) pe_int))))
      (pss_one (ps_ret (pe_lst (pa_cons (pe_revL (pe_lc (own := [("cell", 4)]) (g := (gName 4)) rfl sc_law_deal.nd (pi_list (pv 3)) (blkOk_by (own := [("cell", 4)]) (N := ["script", "salt", "most", "cells", "cell", "mix"]) (sc := defScope s_law_deal) (by decide +kernel)) (fun _ _ _ _ _ => pg_name (i := 4) sc_law_deal.nd rfl (.inl rfl)) (fun _ _ _ _ _ => (pts_one (pt_cmpR op_ge (pv 4) (pe_op op_pow pe_int pe_int) (nomark _)))) (fun _ _ _ _ _ => (pv 4)))) (pa_cons (pv 5) pa_nil))))))))), ?_⟩
    walk_at "go"
    refine sx_pow (by decide) (by decide) (by decide) ?_
    walk_at "sx"
    refine sx_pow (by decide) (by decide) (by decide) ?_
    refine sx_mulW (a := 213) (b := 213) (by decide +kernel) (by decide +kernel) (by decide) (by decide) (by decide) ?_
    walk_at "sx"
    refine sx_pow (by decide) (by decide) (by decide) ?_
    refine sx_mulW (a := 426) (b := 213) (by decide +kernel) (by decide +kernel) (by decide) (by decide) (by decide) ?_
    walk_at "sx"
    refine sx_pow (by decide) (by decide) (by decide) ?_
    refine sx_mulW (a := 639) (b := 213) (by decide +kernel) (by decide +kernel) (by decide) (by decide) (by decide) ?_
    walk_at "sx"
    refine sx_pow (by decide) (by decide) (by decide) ?_
    refine sx_mulW (a := 852) (b := 213) (by decide +kernel) (by decide +kernel) (by decide) (by decide) (by decide) ?_
    walk_at "sx"
    refine sx_pow (by decide) (by decide) (by decide) ?_
    refine sx_mulW (a := 1065) (b := 213) (by decide +kernel) (by decide +kernel) (by decide) (by decide) (by decide) ?_
    rw [pow64, big_eq]
    walk_at "sx"
    refine sx_slL e hS fun p1 H1 hp1 n1 m1 => ?_
    rw [show (63 : Int) = ((63 : Nat) : Int) from rfl, cut_to, List.take_of_length_le (by simpa using hlen)] at m1
    refine sx_lcPure (fun _ => true) cell1 n1.h m1.sq (by simp; omega) (fun x => by simp [wipe]) (fun x _ H2 R e2 h => h) (fun x hx _ H2 R e2 h => ?_) fun p2 H2 hp2 n2 m2 => ?_
    · obtain ⟨i, _, rfl⟩ := List.mem_map.mp hx
      walk_at "st"
      walk_at "sx"
      refine sx_mod (by decide +kernel) ?_
      exact h
    rw [List.filter_eq_self.mpr (fun _ _ => rfl), List.map_map] at m2
    walk_at "sx"
    walk_at "st"
    obtain ⟨cs, hcs⟩ : ∃ cs : List Int, cs = ns.map (fun i => (if i < 0 then -i else i) % big) := ⟨_, rfl⟩
    have mc : ns.map (cell1 ∘ V.int) = cs.map V.int := by rw [hcs, List.map_map]; rfl
    have hc : ∀ c ∈ cs, 0 ≤ c ∧ c < big := fun c hc => by
      rw [hcs] at hc
      obtain ⟨i, _, rfl⟩ := List.mem_map.mp hc
      exact ⟨Int.emod_nonneg _ (by decide +kernel), Int.emod_lt_of_pos _ (by decide +kernel)⟩
    have hcl : cs.length ≤ 63 := by rw [hcs, List.length_map]; exact hlen
    rw [mc] at m2
    refine sx_forL_by m2.sq (fun i σ H' => H' = H2 ∧ ∃ mix y, 0 ≤ mix ∧ mix < 2147483647 ∧ σ = [some (.ref a), some (.int z), some (.int big), some (.ref p2), y, some (.int mix)]) ⟨rfl, _, _, by omega, by omega, rfl⟩ (fun i σ H' _ p => by rw [p.1]; exact m2.sq) (fun i x σ H' hx p => ?_) (fun σ H' p => ?_)
    · obtain ⟨rfl, mix, y, x0, x1, rfl⟩ := p
      obtain ⟨c, hc1, rfl⟩ := List.mem_map.mp (List.mem_of_getElem? hx)
      have := hc c hc1
      walk_at "sx"
      exact ⟨rfl, _, _, Int.emod_nonneg _ (by omega), Int.emod_lt_of_pos _ (by omega), rfl⟩
    · obtain ⟨rfl, mix, y, x0, x1, rfl⟩ := p
      walk_at "sx"
      refine sx_lcPure cellOk id n2.h m2.sq (by simp; omega) (fun x => by simp [wipe]) (fun x hx H3 R e3 h => ?_) (fun x hx _ H3 R e3 h => ?_) fun p3 H3 hp3 n3 m3 => ?_
      · obtain ⟨i, _, rfl⟩ := List.mem_map.mp hx
        walk_at "st"
        walk_at "sx"
        refine sx_pow (by decide) (by decide) (by decide) ?_
        walk_at "sx"
        exact h
      · walk_at "st"
        walk_at "sx"
        exact h
      rw [List.map_id] at m3
      refine sx_revL2 n3.h m3.sq fun p4 H4 hp4 n4 m4 => ?_
      walk_at "sx"
      refine sx_newM n4.h (by simp) fun p5 H5 hp5 n5 m5 => ?_
      obtain ⟨es, hes, h1, h2⟩ : ∃ es : List Int, ((cs.map V.int).filter cellOk).reverse = es.map V.int ∧ (∀ c ∈ es, c ∈ cs) ∧ es.length ≤ cs.length := by
        refine ⟨(cs.filter fun c => decide (10 ^ 18 ≤ c)).reverse, ?_, fun c hc => ?_, ?_⟩
        · rw [List.filter_map, List.map_reverse]
          rfl
        · rw [List.mem_reverse, List.mem_filter] at hc
          exact hc.1
        · rw [List.length_reverse]
          exact List.length_filter_le _ _
      rw [hes] at m4
      exact k B H5 p5 p4 ((((n1.tr n2).tr n3).tr n4).tr n5) ⟨es, mix, m5, m4.up n5, fun c h => hc c (h1 c h), by omega, x0, x1⟩
end
end C
namespace C
open PySem L2 G
section
variable {P : Program} {w : World} {K : PySem.W.Frag} {mg : Str → Option Value} {base : Heap}
/-- _law_is_kind: asked of like things -/
def spKind (K : PySem.W.Frag) : Sp := fun vs H Q _ => ∃ (B : Hp) (x y : V) (d : PyData), vs = [x, y] ∧ Ex B H ∧ Dp K B x d ∧ Dp K B y d ∧ flatD d = true ∧ (∀ ds, d ≠ .tuple ds) ∧
  ∀ B' H', Nx [] B H B' H' → Q (.bl true) H'
theorem ok_law_is_kind (T : Txt w K mg) : Has P w K mg base "_law_is_kind" s_law_is_kind 1 ["told", "due"] (spKind K) := by
  refine has_mk T.d_law_is_kind sc_law_is_kind (fun _ _ _ _ _ _ us hl => match us, hl with | [_, _], _ => rfl) (fun vs H Q E h => ?_) (fun f cdv A outer s H vs Q E hr h => ?_)
  · obtain ⟨_, _, _, _, rfl, _⟩ := h
    rfl
  · obtain ⟨B, x, y, d, rfl, e, hx, hy, hf, ht, k⟩ := h
    refine ⟨_, (pss_cons (ps_if (pt_cmpR op_isN1 (pv 1) pe_non (nomark _))
      (pss_one (ps_ret (pe_cmpR op_isN1 (pv 0) pe_non (nomark _))))
      pss_nil)
      (pss_cons (ps_if (PW.pt (pw_or (pt_cmpR op_isBV (pv 1) pe_bl (nomark _)) (pw_or1 (pt_cmpR op_isBV (pv 1) pe_bl (nomark _)))))
      (pss_one (ps_ret (pe_ifExp (pt_val (pv 1)) (pe_cmpR op_isBV (pv 0) pe_bl (nomark _)) (pe_cmpR op_isBV (pv 0) pe_bl (nomark _)))))
      pss_nil)
      (pss_cons (ps_if (pt_val (pe_callB call_isi (by rfl) T.b_isinstance (by decide +kernel) (pa_cons (pv 1) (pa_cons (pe_bT (n := "str") (by rfl) T.b_str (by decide +kernel)) pa_nil))))
      (pss_one (ps_ret (pe_and (pe_callB call_isi (by rfl) T.b_isinstance (by decide +kernel) (pa_cons (pv 0) (pa_cons (pe_bT (n := "str") (by rfl) T.b_str (by decide +kernel)) pa_nil))) (pe_one (pe_cmpR op_eq (pv 0) (pv 1) (nomark _))))))
      pss_nil)
      (pss_one (ps_ret (pe_and (pe_callB call_isi (by rfl) T.b_isinstance (by decide +kernel) (pa_cons (pv 0) (pa_cons (pe_bT (n := "int") (by rfl) T.b_int (by decide +kernel)) pa_nil))) (pe_and (pe_not (pe_callB call_isi (by rfl) T.b_isinstance (by decide +kernel) (pa_cons (pv 0) (pa_cons (pe_bT (n := "bool") (by rfl) T.b_bool (by decide +kernel)) pa_nil)))) (pe_one (pe_cmpR op_eq (pv 0) (pv 1) (nomark _)))))))))), ?_⟩
    walk_at "go"
    cases d with
    | none =>
      cases Dp.none_v hx
      cases Dp.none_v hy
      refine ifT (by decide) ?_
      walk_at "sx"
      exact k B H (Nx.refl e)
    | bool b =>
      cases Dp.bool_v hx
      cases Dp.bool_v hy
      refine ifF (by simp) ?_
      walk_at "sx"
      cases b with
      | true =>
        refine ifT (by decide) ?_
        refine ifT (by decide) ?_
        walk_at "sx"
        refine ifT (by decide) ?_
        walk_at "sx"
        exact k B H (Nx.refl e)
      | false =>
        refine ifF (by decide) ?_
        walk_at "sx"
        refine ifT (by decide) ?_
        walk_at "sx"
        refine ifF (by decide) ?_
        walk_at "sx"
        exact k B H (Nx.refl e)
    | int i =>
      have ex := Dp.int_v hx
      have ey := Dp.int_v hy
      subst ex ey
      refine ifF (by simp) ?_
      walk_at "sx"
      refine ifF (by simp) ?_
      walk_at "sx"
      refine ifF (by simp) ?_
      walk_at "sx"
      refine ifF rfl ?_
      walk_at "sx"
      refine ifT rfl ?_
      walk_at "sx"
      refine ifT rfl ?_
      walk_at "sx"
      rw [int_eqT rfl]
      exact k B H (Nx.refl e)
    | str z =>
      have ex := Dp.str_v hx
      have ey := Dp.str_v hy
      subst ex ey
      refine ifF (by simp) ?_
      walk_at "sx"
      refine ifF (by simp) ?_
      walk_at "sx"
      refine ifF (by simp) ?_
      walk_at "sx"
      refine ifT rfl ?_
      walk_at "sx"
      refine ifT rfl ?_
      walk_at "sx"
      rw [str_eqT rfl]
      exact k B H (Nx.refl e)
    | list ds => simp [flatD] at hf
    | tuple ds => exact absurd rfl (ht ds)
    | dict ds => simp [flatD] at hf
end
end C
namespace C
open PySem L2 G
section
variable {P : Program} {w : World} {K : PySem.W.Frag} {mg : Str → Option Value} {base : Heap}
/-- _law_same: asked of like things -/
def spSame (K : PySem.W.Frag) : Sp := fun vs H Q _ => ∃ (B : Hp) (x y : V) (d : PyData), vs = [x, y] ∧ Ex B H ∧ Dp K B x d ∧ Dp K B y d ∧ flatD d = true ∧ szD d ≤ 50000 ∧
  ∀ B' H', Nx [] B H B' H' → Q (.bl true) H'
theorem ok_law_same (T : Txt w K mg) : Has P w K mg base "_law_same" s_law_same 2 ["told", "due"] (spSame K) := by
  refine has_mk T.d_law_same sc_law_same (fun _ _ _ _ _ _ us hl => match us, hl with | [_, _], _ => rfl) (fun vs H Q E h => ?_) (fun f cdv A outer s H vs Q E hr h => ?_)
  · obtain ⟨_, _, _, _, rfl, _⟩ := h
    rfl
  · obtain ⟨B, x, y, d, rfl, e, hx, hy, hf, hz, k⟩ := h
    refine ⟨_, (pss_cons (ps_set (i := 2) sc_law_same.nd rfl (.inl rfl) (pe_lst (pa_cons (pe_tup (pa_cons (pv 0) (pa_cons (pv 1) pa_nil))) pa_nil)))
      (G.pss_cut (ps_while PassesOwn.never (pt_cmpR op_gt (pe_callB cl_len (by rfl) T.b_len (by decide +kernel) (pa_cons (pv 2) pa_nil)) pe_int (nomark _))
      (pss_cons (ps_asg (pe_bm0 PySem.F.plainAttrs_list PySem.F.slot_list_pop PySem.F.type_list_pop mt_pop (pv 2)) (pg_tup (by rfl) (pgs_cons (pg_name (i := 3) sc_law_same.nd rfl (.inl rfl)) (pgs_cons (pg_name (i := 4) sc_law_same.nd rfl (.inl rfl)) pgs_nil))))
      (pss_one (ps_if (pt_val (pe_callB call_isi (by rfl) T.b_isinstance (by decide +kernel) (pa_cons (pv 4) (pa_cons (pe_bT (n := "tuple") (by rfl) T.b_tuple (by decide +kernel)) pa_nil))))
      (pss_cons (ps_if (PW.pt (pw_or (pt_not (pt_val (pe_callB call_isi (by rfl) T.b_isinstance (by decide +kernel) (pa_cons (pv 3) (pa_cons (pe_bT (n := "tuple") (by rfl) T.b_tuple (by decide +kernel)) pa_nil))))) (pw_or1 (pt_cmpR op_ne (pe_callB cl_len (by rfl) T.b_len (by decide +kernel) (pa_cons (pv 3) pa_nil)) (pe_callB cl_len (by rfl) T.b_len (by decide +kernel) (pa_cons (pv 4) pa_nil)) (nomark _)))))
      (pss_one (ps_ret pe_bl))
      pss_nil)
      (pss_one (ps_for PassesOwn.never rfl (pi_range1 (by rfl) T.b_range (pa_cons (pe_callB cl_len (by rfl) T.b_len (by decide +kernel) (pa_cons (pv 4) pa_nil)) pa_nil)) (pg_name (i := 5) sc_law_same.nd rfl (.inl rfl))
      (pss_one (ps_expr (pe_bm PySem.F.plainAttrs_list PySem.F.slot_list_append PySem.F.type_list_append mt_append (pv 2) (pa_cons (pe_tup (pa_cons (pe_ix ix_tup (pv 3) (pv 5) (fun _ _ => rfl)) (pa_cons (pe_ix ix_tup (pv 4) (pv 5) (fun _ _ => rfl)) pa_nil))) pa_nil)))))))
      (pss_one (ps_if (PW.pt (pw_or (pt_val (pe_callB call_isiT (by rfl) T.b_isinstance (by decide +kernel) (pa_cons (pv 3) (pa_cons (pe_tup (pa_cons (pe_bT (n := "tuple") (by rfl) T.b_tuple (by decide +kernel)) (pa_cons (pe_bT (n := "list") (by rfl) T.b_list (by decide +kernel)) (pa_cons (pe_bT (n := "dict") (by rfl) T.b_dict (by decide +kernel)) pa_nil)))) pa_nil)))) (pw_or1 (pt_not (pt_val (pe_callH (ok_law_is_kind T) hr (by rfl) (pa_cons (pv 3) (pa_cons (pv 4) pa_nil))))))))
      (pss_one (ps_ret pe_bl))
      pss_nil))))))
      (pss_one (ps_ret pe_bl)))), ?_⟩
    walk_at "go"
    refine sx_newT e (.cons hx (.cons hy .nil)) (by simp) fun p1 B1 H1 hp1 n1 d1 => ?_
    walk_at "sx"
    refine sx_newM n1.h (by simp) fun L H2 hL n2 mL => ?_
    have hL0 : H L = none := n1.ex.free hL
    walk_at "sx"
    walk_at "st"
    refine G.sx_cut (fun σ H' => ∃ B', Nx [] B H B' H') ?_ ?_
    · refine ⟨fun m σ H' => ∃ (B' : Hp) (xs : List V) (ds : List PyData) (y3 y4 y5 : Option V), m = szDs ds ∧ σ = [some x, some y, some (.ref L), y3, y4, y5] ∧ Nx [] B H B' H' ∧ Mu B' H' L xs ∧ DpAll K B' xs (ds.map fun d => .tuple [d, d]) ∧ flatDs ds = true ∧ szDs ds ≤ 50000, ?_, ?_⟩
      · exact ⟨_, B1, [.ref p1], [d], none, none, none, rfl, rfl, n1.tr n2, mL, .cons d1 .nil, by simp [flatDs, hf], by simp [szDs]; omega⟩
      · rintro m σ H3 ⟨B3, xs, ds, y3, y4, y5, rfl, rfl, n3, m3, hd3, hf3, hz3⟩
        have hlen := Dps.len hd3
        rw [List.length_map] at hlen
        have hsz := szDs_len ds
        walk_at "sx"
        by_cases he : ds = []
        · subst he
          refine ifF (dF (by rw [hlen]; simp)) ?_
          exact ⟨B3, n3⟩
        · obtain ⟨r, t, rfl⟩ := snoc_of he
          refine ifT (dT (by rw [hlen]; simp)) ?_
          refine ⟨_, fun _ _ h => h, ?_⟩
          rw [List.map_append, List.map_singleton] at hd3
          obtain ⟨us, v, rfl, hus, hv⟩ := Dps.last hd3
          rw [flatDs_app] at hf3
          rw [szDs_app] at hz3
          obtain ⟨hfr, hft⟩ := Bool.and_eq_true_iff.mp hf3
          have hft : flatD t = true := by simpa [flatDs] using hft
          have hst : szDs [t] = szD t := by simp [szDs]
          walk_at "sx"
          refine sx_pop m3 n3.h fun H4 n4 m4 => ?_
          have n34 : Nx [] B H B3 H4 := n3.loc n4 (by simp [hL0])
          refine sx_gtup2 hv n4.h fun v1 v2 e1 e2 => ?_
          walk_at "sx"
          walk_at "st"
          by_cases ht : isTup t = true
          · refine ifT ht ?_
            obtain ⟨ts, rfl⟩ : ∃ ts, t = .tuple ts := by
              cases t with
              | tuple ts => exact ⟨ts, rfl⟩
              | _ => simp [isTup] at ht
            have hsts : szD (.tuple ts) = szDs ts + 1 := by simp [szD]
            have hts := szDs_len ts
            have hfts : flatDs ts = true := by simpa [flatD] using hft
            walk_at "sx"
            refine ifF rfl ?_
            walk_at "sx"
            refine sx_lenTd e1 n4.h ?_
            walk_at "sx"
            refine sx_lenTd e2 n4.h ?_
            walk_at "sx"
            refine ifF (by simp) ?_
            walk_at "sx"
            refine sx_lenTd e2 n4.h ?_
            walk_at "sx"
            refine sx_forR_by (by omega) (fun i σ H' => ∃ (B' : Hp) (xs : List V) (y5 : Option V), σ = [some x, some y, some (.ref L), some v1, some v2, y5] ∧ Nx [] B H B' H' ∧ Ex B3 B' ∧ Mu B' H' L xs ∧ DpAll K B' xs ((r ++ ts.take i).map fun d => .tuple [d, d])) ⟨B3, us, _, rfl, n34, Ex.refl _, m4, by simpa using hus⟩ (fun i σ H5 hi p => ?_) (fun σ H5 p => ?_)
            · obtain ⟨B5, xs, y5, rfl, n5, e5, m5, d5⟩ := p
              have hl5 := Dps.len d5
              rw [List.length_map, List.length_append, List.length_take] at hl5
              have hlr := szDs_len r
              walk_at "sx"
              refine sx_ixTd (Dp.up e5 e1) n5.h (atI_nat (List.getElem?_eq_getElem hi)) fun w1 f1 => ?_
              walk_at "sx"
              refine sx_ixTd (Dp.up e5 e2) n5.h (atI_nat (List.getElem?_eq_getElem hi)) fun w2 f2 => ?_
              walk_at "sx"
              refine sx_newT n5.h (.cons f1 (.cons f2 .nil)) (by simp) fun p6 B6 H6 hp6 n6 d6 => ?_
              walk_at "sx"
              refine sx_append (m5.up n6) n6.h (by omega) fun H7 n7 m7 => ?_
              refine ⟨B6, _, _, rfl, (n5.tr n6).loc n7 (by simp [hL0]), e5.trans n6.b, m7, ?_⟩
              rw [List.take_add_one, List.getElem?_eq_getElem hi, ← List.append_assoc, List.map_append]
              exact Dps.app (Dps.up n6.b d5) (.cons d6 .nil)
            · obtain ⟨B5, xs, y5, rfl, n5, e5, m5, d5⟩ := p
              rw [List.take_of_length_le (Nat.le_refl _)] at d5
              refine ⟨szDs (r ++ ts), ?_, B5, xs, r ++ ts, _, _, _, rfl, rfl, n5, m5, d5, ?_, ?_⟩
              · rw [szDs_app, szDs_app, hst, hsts]
                omega
              · rw [flatDs_app, hfr, hfts]
                rfl
              · rw [szDs_app]
                omega
          · have hnt : isTup t = false := by simpa using ht
            refine ifF hnt ?_
            walk_at "sx"
            refine sx_newTp n4.h (by simp) fun p5 H5 hp5 n5 t5 => ?_
            walk_at "sx"
            refine sx_isiT3 e1 n5.h t5 ?_
            walk_at "sx"
            refine ifF ?_ ?_
            · cases t <;> simp_all [isTup, isList, isDict, flatD]
            walk_at "sx"
            refine ⟨B3, v1, v2, t, rfl, n5.h, e1, e2, hft, fun ds z => by subst z; exact ht rfl, fun B6 H6 n6 => ?_⟩
            walk_at "sx"
            refine ifF rfl ?_
            walk_at "sx"
            refine ⟨szDs r, ?_, B6, us, r, _, _, _, rfl, rfl, (n34.tr n5).tr n6, (m4.up n5).up n6, Dps.up n6.b hus, hfr, by omega⟩
            have := szD_pos t
            rw [szDs_app, hst]
            omega
    · rintro σ H' ⟨B', n'⟩
      walk_at "sx"
      exact k B' H' n'
end
end C
namespace C
open PySem L2 G
section
variable {P : Program} {w : World} {K : PySem.W.Frag} {mg : Str → Option Value} {base : Heap}
/-- what each pair of answers is -/
structure PairOk (K : PySem.W.Frag) (B : Hp) (v : V) : Prop where
  ex : ∃ (p : Addr) (a b : V) (d : PyData), v = .ref p ∧ SqT K B p [a, b] ∧ Dp K B a d ∧ Dp K B b d ∧ flatD d = true ∧ szD d ≤ 50000
theorem PairOk.up {B B' : Hp} {v : V} (h : PairOk K B v) (e : Ex B B') : PairOk K B' v := by
  obtain ⟨p, a, b, d, rfl, h1, h2, h3, h4⟩ := h
  exact ⟨p, a, b, d, rfl, e.t h1, Dp.up e h2, Dp.up e h3, h4⟩
/-- _law_all: asked of like pairs -/
def spAll (K : PySem.W.Frag) : Sp := fun vs H Q _ => ∃ (B : Hp) (a : Addr) (xs : List V), vs = [.ref a] ∧ Ex B H ∧ SqL K H a xs ∧ xs.length ≤ 50000 ∧ (∀ x ∈ xs, PairOk K B x) ∧
  ∀ H', Q (.bl true) H'
theorem ok_law_all (T : Txt w K mg) : Has P w K mg base "_law_all" s_law_all 3 ["pairs"] (spAll K) := by
  refine has_mk T.d_law_all sc_law_all (fun _ _ _ _ _ _ us hl => match us, hl with | [_], _ => rfl) (fun vs H Q E h => ?_) (fun f cdv A outer s H vs Q E hr h => ?_)
  · obtain ⟨_, _, _, rfl, _⟩ := h
    rfl
  · obtain ⟨B, a, xs, rfl, e, hS, hz, hp, k⟩ := h
    refine ⟨_, (pss_one (ps_ret (pe_cmpR op_eq (pe_callB cl_len (by rfl) T.b_len (by decide +kernel) (pa_cons (pe_lc (own := [("told", 1), ("due", 2)]) (g := (gTup K 2 (gCons (gName 1) (gCons (gName 2) gNil)))) rfl sc_law_all.nd (pi_list (pv 0)) (blkOk_by (own := [("told", 1), ("due", 2)]) (N := ["pairs", "told", "due"]) (sc := defScope s_law_all) (by decide +kernel)) (fun _ _ _ _ _ => (pg_tup (by rfl) (pgs_cons (pg_name (i := 1) sc_law_all.nd rfl (.inl rfl)) (pgs_cons (pg_name (i := 2) sc_law_all.nd rfl (.inl rfl)) pgs_nil)))) (fun _ _ _ _ _ => (pts_one (pt_not (pt_val (pe_callH (ok_law_same T) hr (by rfl) (pa_cons (pv 1) (pa_cons (pv 2) pa_nil))))))) (fun _ _ _ _ _ => (pv 1))) pa_nil)) pe_int (nomark _)))), ?_⟩
    walk_at "go"
    walk_at "st"
    refine sx_lcL_by hS (fun L i H' => ∃ B', Nx [] B H B' H' ∧ H L = none ∧ Mu B' H' L []) (fun L hL => ⟨B, Nx.own e hL, hL, Mu.new e hL⟩) (fun L i H' _ p => by obtain ⟨B', n, _⟩ := p; exact n.sq hS (by simp)) (fun L i x H' hx p => ?_) (fun L H' p => ?_)
    · obtain ⟨B', n, hL, m⟩ := p
      obtain ⟨q, v1, v2, d, rfl, h1, h2, h3, h4, h5⟩ := (hp x (List.mem_of_getElem? hx)).up n.b
      refine sx_gtup2 (d1 := d) (d2 := d) (.tup h1 (.cons h2 (.cons h3 .nil))) n.h fun w1 w2 e1 e2 => ?_
      walk_at "sx"
      walk_at "st"
      refine ⟨trivial, ?_⟩
      walk_at "sx"
      refine ⟨B', w1, w2, d, rfl, n.h, e1, e2, h4, h5, fun B2 H2 n2 => ?_⟩
      walk_at "sx"
      refine ifF rfl ?_
      exact ⟨B2, n.tr n2, hL, m.up n2⟩
    · obtain ⟨B', n, hL, m⟩ := p
      walk_at "sx"
      exact k H'
end
end C
namespace C
open PySem L2 G
section
variable {P : Program} {w : World} {K : PySem.W.Frag} {mg : Str → Option Value} {base : Heap}
/-! ### what is an expression: by the data -/
def isIntg (d : PyData) : Bool := isInt d && !isBool d
def isPos (d : PyData) : Bool := match d with
  | .int i => decide (0 < i)
  | _ => false
def wordFirst (d : PyData) : Bool := match d with
  | .tuple (.str _ :: _) => true
  | _ => false
def plainP (names : List Str) (w : Str) (ds : List PyData) : Option (List PyData) := match ds with
  | [x] => if w = "number" then (if isIntg x then some [] else none) else (match x with
    | .str z => if z ∈ names then some [] else none
    | _ => none)
  | _ => none
def srt (s : Str) (d : PyData) : PyData := .tuple [.str s, d]
def two (ds : List PyData) (f : PyData → PyData → Option (List PyData)) : Option (List PyData) := match ds with
  | [x, y] => f x y
  | _ => none
theorem two_no {ds : List PyData} {f : PyData → PyData → Option (List PyData)} (h : ds.length ≠ 2) : two ds f = none := by
  match ds, h with
  | [], _ => rfl
  | [_], _ => rfl
  | [_, _], h => exact absurd rfl h
  | _ :: _ :: _ :: _, _ => rfl
theorem len2 {ds : List PyData} (h : ds.length = 2) : ∃ x y, ds = [x, y] := by
  match ds, h with
  | [x, y], _ => exact ⟨x, y, rfl⟩
def one (ds : List PyData) (f : PyData → Option (List PyData)) : Option (List PyData) := match ds with
  | [x] => f x
  | _ => none
theorem one_no {ds : List PyData} {f : PyData → Option (List PyData)} (h : ds.length ≠ 1) : one ds f = none := by
  match ds, h with
  | [], _ => rfl
  | [_], h => exact absurd rfl h
  | _ :: _ :: _, _ => rfl
theorem len1 {ds : List PyData} (h : ds.length = 1) : ∃ x, ds = [x] := by
  match ds, h with
  | [x], _ => exact ⟨x, rfl⟩
def exprP (names : List Str) (w : Str) (ds : List PyData) : Option (List PyData) :=
  if w ∈ (["number", "field"] : List Str) then plainP names w ds
  else if w ∈ (["plus", "less", "times", "min", "max"] : List Str) then two ds fun x y => some [srt "expression" x, srt "expression" y]
  else if w ∈ (["div", "rest"] : List Str) then two ds fun x y => if isPos y then some [srt "expression" x] else none
  else none
def condP (w : Str) (ds : List PyData) : Option (List PyData) :=
  if w = "not" then one ds fun x => some [srt "condition" x]
  else if w ∈ (["same", "below", "and", "or"] : List Str) then two ds fun x y => if w ∈ (["same", "below"] : List Str) then some [srt "expression" x, srt "expression" y] else some [srt "condition" x, srt "condition" y]
  else none
/-- names: a tuple of texts -/
def spBl1 (K : PySem.W.Frag) (f : PyData → Bool) : Sp := fun vs H Q _ => ∃ (B : Hp) (x : V) (d : PyData), vs = [x] ∧ Ex B H ∧ Dp K B x d ∧ ∀ B' H', Nx [] B H B' H' → Q (.bl (f d)) H'
theorem ok_is_integer (T : Txt w K mg) : Has P w K mg base "is_integer" s_is_integer 1 ["value"] (spBl1 K isIntg) := by
  refine has_mk T.d_is_integer sc_is_integer (fun _ _ _ _ _ _ us hl => match us, hl with | [_], _ => rfl) (fun vs H Q E h => ?_) (fun f cdv A outer s H vs Q E hr h => ?_)
  · obtain ⟨_, _, _, rfl, _⟩ := h
    rfl
  · obtain ⟨B, x, d, rfl, e, hx, k⟩ := h
    refine ⟨_, (pss_one (ps_ret (pe_and (pe_callB call_isi (by rfl) T.b_isinstance (by decide +kernel) (pa_cons (pv 0) (pa_cons (pe_bT (n := "int") (by rfl) T.b_int (by decide +kernel)) pa_nil))) (pe_one (pe_not (pe_callB call_isi (by rfl) T.b_isinstance (by decide +kernel) (pa_cons (pv 0) (pa_cons (pe_bT (n := "bool") (by rfl) T.b_bool (by decide +kernel)) pa_nil)))))))), ?_⟩
    walk_at "go"
    have k := k B H (Nx.refl e)
    unfold isIntg at k
    cases h1 : isInt d with
    | true =>
      rw [h1] at k
      refine ifT rfl ?_
      walk_at "sx"
      exact k
    | false =>
      rw [h1] at k
      refine ifF rfl ?_
      exact k
theorem ok_is_positive (T : Txt w K mg) : Has P w K mg base "is_positive" s_is_positive 2 ["value"] (spBl1 K isPos) := by
  refine has_mk T.d_is_positive sc_is_positive (fun _ _ _ _ _ _ us hl => match us, hl with | [_], _ => rfl) (fun vs H Q E h => ?_) (fun f cdv A outer s H vs Q E hr h => ?_)
  · obtain ⟨_, _, _, rfl, _⟩ := h
    rfl
  · obtain ⟨B, x, d, rfl, e, hx, k⟩ := h
    refine ⟨_, (pss_one (ps_ret (pe_and (pe_callH (ok_is_integer T) hr (by rfl) (pa_cons (pv 0) pa_nil)) (pe_one (pe_cmpR op_gt (pv 0) pe_int (nomark _)))))), ?_⟩
    walk_at "go"
    refine ⟨B, x, d, rfl, e, hx, fun B1 H1 n1 => ?_⟩
    walk_at "sx"
    have k := k B1 H1 n1
    cases d with
    | int i =>
      cases Dp.int_v hx
      refine ifT rfl ?_
      walk_at "sx"
      exact k
    | _ =>
      refine ifF rfl ?_
      exact k
theorem ok_is_word_first (T : Txt w K mg) : Has P w K mg base "is_word_first" s_is_word_first 1 ["value"] (spBl1 K wordFirst) := by
  refine has_mk T.d_is_word_first sc_is_word_first (fun _ _ _ _ _ _ us hl => match us, hl with | [_], _ => rfl) (fun vs H Q E h => ?_) (fun f cdv A outer s H vs Q E hr h => ?_)
  · obtain ⟨_, _, _, rfl, _⟩ := h
    rfl
  · obtain ⟨B, x, d, rfl, e, hx, k⟩ := h
    refine ⟨_, (pss_one (ps_ret (pe_and (pe_callB call_isi (by rfl) T.b_isinstance (by decide +kernel) (pa_cons (pv 0) (pa_cons (pe_bT (n := "tuple") (by rfl) T.b_tuple (by decide +kernel)) pa_nil))) (pe_and (pe_cmpR (op_neNilT hr.units) (pv 0) (pe_tup pa_nil) (nomark _)) (pe_one (pe_callB call_isi (by rfl) T.b_isinstance (by decide +kernel) (pa_cons (pe_ix ix_tup (pv 0) pe_int (fun _ _ => rfl)) (pa_cons (pe_bT (n := "str") (by rfl) T.b_str (by decide +kernel)) pa_nil)))))))), ?_⟩
    walk_at "go"
    cases d with
    | tuple ds =>
      refine ifT rfl ?_
      walk_at "sx"
      refine sx_newTp e (by simp) fun p H1 hp n1 t1 => ?_
      refine sx_neTd hx n1.h t1 ?_
      walk_at "sx"
      cases ds with
      | nil =>
        refine ifF rfl ?_
        exact k B H1 n1
      | cons d0 r =>
        refine ifT rfl ?_
        walk_at "sx"
        refine sx_ixTd hx n1.h at0 fun v hv => ?_
        walk_at "sx"
        have k := k B H1 n1
        cases d0 <;> exact k
    | _ =>
      refine ifF rfl ?_
      exact k B H (Nx.refl e)

/-- a list of data, or None -/
def OptL (K : PySem.W.Frag) (B H : Hp) (o : Option (List PyData)) (Q : VK) : Prop := match o with
  | none => ∀ B' H', Nx [] B H B' H' → Q .non H'
  | some ds => ∀ B' H' p xs, Nx [] B H B' H' → H p = none → Mu B' H' p xs → DpAll K B' xs ds → Q (.ref p) H'
def spPlain (K : PySem.W.Frag) : Sp := fun vs H Q _ => ∃ (B : Hp) (a : Addr) (ns : List Str) (x : V) (w : Str) (ds : List PyData), vs = [.ref a, x] ∧ Ex B H ∧ SqT K B a (ns.map V.str) ∧ Dp K B x (.tuple (.str w :: ds)) ∧ w ∈ (["number", "field"] : List Str) ∧ OptL K B H (plainP ns w ds) Q
theorem ok_plain_parts (T : Txt w K mg) : Has P w K mg base "plain_parts" s_plain_parts 2 ["names", "value"] (spPlain K) := by
  refine has_mk T.d_plain_parts sc_plain_parts (fun _ _ _ _ _ _ us hl => match us, hl with | [_, _], _ => rfl) (fun vs H Q E h => ?_) (fun f cdv A outer s H vs Q E hr h => ?_)
  · obtain ⟨_, _, _, _, _, _, rfl, _⟩ := h
    rfl
  · obtain ⟨B, a, ns, x, w, ds, rfl, e, hS, hx, hw, k⟩ := h
    refine ⟨_, (pss_cons (ps_if (pt_cmpR op_ne (pe_callB cl_len (by rfl) T.b_len (by decide +kernel) (pa_cons (pv 1) pa_nil)) pe_int (nomark _))
      (pss_one (ps_ret pe_non))
      pss_nil)
      (pss_cons (ps_if (pt_cmpR op_eq (pe_ix ix_tup (pv 1) pe_int (fun _ _ => rfl)) (pe_gS (by rfl) T.g_NUMBER) (nomark _))
      (pss_one (ps_ret (pe_ifExp (pt_val (pe_callH (ok_is_integer T) hr (by rfl) (pa_cons (pe_ix ix_tup (pv 1) pe_int (fun _ _ => rfl)) pa_nil))) (pe_lst pa_nil) pe_non)))
      pss_nil)
      (pss_one (ps_ret (pe_ifExp (PW.pt (pw_and (pt_val (pe_callB call_isi (by rfl) T.b_isinstance (by decide +kernel) (pa_cons (pe_ix ix_tup (pv 1) pe_int (fun _ _ => rfl)) (pa_cons (pe_bT (n := "str") (by rfl) T.b_str (by decide +kernel)) pa_nil)))) (pw_and1 (pt_cmpR op_in_seq (pe_ix ix_tup (pv 1) pe_int (fun _ _ => rfl)) (pv 0) (by rfl))))) (pe_lst pa_nil) pe_non))))), ?_⟩
    have kn : ∀ B' H', plainP ns w ds = none → Nx [] B H B' H' → Q .non H' := fun B' H' z n => by
      rw [z] at k
      exact k B' H' n
    have ks : ∀ B' H' p, plainP ns w ds = some [] → Nx [] B H B' H' → H p = none → Mu B' H' p [] → Q (.ref p) H' := fun B' H' p z n hp m => by
      rw [z] at k
      exact k B' H' p [] n hp m .nil
    walk_at "go"
    refine sx_lenTd hx e ?_
    walk_at "sx"
    by_cases h1 : ds.length = 1
    · obtain ⟨d, rfl⟩ := List.length_eq_one_iff.mp h1
      refine ifF (by rw [int_eqT (by simp)]; rfl) ?_
      walk_at "sx"
      refine sx_ixTd hx e at0 fun v hv => ?_
      cases Dp.str_v hv
      walk_at "sx"
      by_cases h2 : w = "number"
      · refine ifT (str_eqT h2) ?_
        walk_at "sx"
        refine sx_ixTd hx e at1 fun v hv => ?_
        walk_at "sx"
        refine ⟨B, v, d, rfl, e, hv, fun B1 H1 n1 => ?_⟩
        walk_at "sx"
        cases h3 : isIntg d with
        | true =>
          refine ifT rfl ?_
          walk_at "sx"
          refine sx_newM n1.h (by simp) fun p H2 hp n2 m2 => ?_
          exact ks B1 H2 p (by simp [plainP, h2, h3]) (n1.tr n2) (n1.ex.free hp) m2
        | false =>
          refine ifF rfl ?_
          walk_at "sx"
          exact kn B1 H1 (by simp [plainP, h2, h3]) n1
      · refine ifF (str_eqF h2) ?_
        walk_at "sx"
        refine sx_ixTd hx e at1 fun v hv => ?_
        walk_at "sx"
        cases d with
        | str z =>
          cases Dp.str_v hv
          refine ifT rfl ?_
          walk_at "sx"
          refine sx_ixTd hx e at1 fun v hv => ?_
          cases Dp.str_v hv
          walk_at "sx"
          refine sx_inTs ns (e.t hS) ?_
          walk_at "sx"
          by_cases h4 : z ∈ ns
          · refine ifT (dT h4) ?_
            walk_at "sx"
            refine sx_newM e (by simp) fun p H2 hp n2 m2 => ?_
            exact ks B H2 p (by simp [plainP, h2, h4]) n2 hp m2
          · refine ifF (dF h4) ?_
            walk_at "sx"
            exact kn B H (by simp [plainP, h2, h4]) (Nx.refl e)
        | _ =>
          refine ifF rfl ?_
          refine ifF rfl ?_
          walk_at "sx"
          exact kn B H (by simp [plainP, h2]) (Nx.refl e)
    · refine ifT (by rw [int_eqF (by simp; omega)]; rfl) ?_
      walk_at "sx"
      refine kn B H ?_ (Nx.refl e)
      cases ds with
      | nil => rfl
      | cons y r =>
        cases r with
        | nil => simp at h1
        | cons z t => rfl
end
end C
namespace C
open PySem L2 G
section
variable {P : Program} {w : World} {K : PySem.W.Frag} {mg : Str → Option Value} {base : Heap}
def spParts (K : PySem.W.Frag) : Sp := fun vs H Q _ => ∃ (B : Hp) (a : Addr) (ns : List Str) (x : V) (w : Str) (ds : List PyData), vs = [.ref a, x] ∧ Ex B H ∧ SqT K B a (ns.map V.str) ∧ Dp K B x (.tuple (.str w :: ds)) ∧ OptL K B H (exprP ns w ds) Q
theorem ok_expression_parts (T : Txt w K mg) : Has P w K mg base "expression_parts" s_expression_parts 3 ["names", "value"] (spParts K) := by
  refine has_mk T.d_expression_parts sc_expression_parts (fun _ _ _ _ _ _ us hl => match us, hl with | [_, _], _ => rfl) (fun vs H Q E h => ?_) (fun f cdv A outer s H vs Q E hr h => ?_)
  · obtain ⟨_, _, _, _, _, _, rfl, _⟩ := h
    rfl
  · obtain ⟨B, a, ns, x, w, ds, rfl, e, hS, hx, k⟩ := h
    refine ⟨_, (pss_cons (ps_set (i := 2) sc_expression_parts.nd rfl (.inl rfl) (pe_ix ix_tup (pv 1) pe_int (fun _ _ => rfl)))
      (pss_cons (ps_if (pt_cmpR op_in_seq (pv 2) (pe_tup (pa_cons (pe_gS (by rfl) T.g_NUMBER) (pa_cons (pe_gS (by rfl) T.g_FIELD) pa_nil))) (by rfl))
      (pss_one (ps_ret (pe_callH (ok_plain_parts T) hr (by rfl) (pa_cons (pv 0) (pa_cons (pv 1) pa_nil)))))
      pss_nil)
      (pss_cons (ps_if (pt_cmpR op_in_seq (pv 2) (pe_gR (by rfl) T.g_PAIRED) (by rfl))
      (pss_one (ps_ret (pe_ifExp (pt_cmpR op_eq (pe_callB cl_len (by rfl) T.b_len (by decide +kernel) (pa_cons (pv 1) pa_nil)) pe_int (nomark _)) (pe_lst (pa_cons (pe_tup (pa_cons (pe_gS (by rfl) T.g_EXPRESSION) (pa_cons (pe_ix ix_tup (pv 1) pe_int (fun _ _ => rfl)) pa_nil))) (pa_cons (pe_tup (pa_cons (pe_gS (by rfl) T.g_EXPRESSION) (pa_cons (pe_ix ix_tup (pv 1) pe_int (fun _ _ => rfl)) pa_nil))) pa_nil))) pe_non)))
      pss_nil)
      (pss_cons (ps_if (PW.pt (pw_and (pt_cmpR op_in_seq (pv 2) (pe_gR (by rfl) T.g_CUT) (by rfl)) (pw_and (pt_cmpR op_eq (pe_callB cl_len (by rfl) T.b_len (by decide +kernel) (pa_cons (pv 1) pa_nil)) pe_int (nomark _)) (pw_and1 (pt_val (pe_callH (ok_is_positive T) hr (by rfl) (pa_cons (pe_ix ix_tup (pv 1) pe_int (fun _ _ => rfl)) pa_nil)))))))
      (pss_one (ps_ret (pe_lst (pa_cons (pe_tup (pa_cons (pe_gS (by rfl) T.g_EXPRESSION) (pa_cons (pe_ix ix_tup (pv 1) pe_int (fun _ _ => rfl)) pa_nil))) pa_nil))))
      pss_nil)
      (pss_one (ps_ret pe_non)))))), ?_⟩
    walk_at "go"
    refine sx_ixTd hx e at0 fun v hv => ?_
    cases Dp.str_v hv
    walk_at "sx"
    refine sx_newTp e (by simp) fun p1 H1 hp1 n1 t1 => ?_
    refine sx_inTs ["number", "field"] (SqT.of t1) ?_
    walk_at "sx"
    by_cases h1 : w ∈ (["number", "field"] : List Str)
    · refine ifT (dT h1) ?_
      walk_at "sx"
      refine ⟨B, a, ns, x, w, ds, rfl, n1.h, hS, hx, h1, ?_⟩
      have e1 : exprP ns w ds = plainP ns w ds := by unfold exprP; rw [if_pos h1]
      rw [e1] at k
      cases ep : plainP ns w ds with
      | none =>
        rw [ep] at k
        exact fun B2 H2 n2 => k B2 H2 (n1.tr n2)
      | some es =>
        rw [ep] at k
        exact fun B2 H2 p xs n2 hp m d => k B2 H2 p xs (n1.tr n2) (n1.ex.free hp) m d
    · refine ifF (dF h1) ?_
      walk_at "sx"
      intro a2 t2
      refine sx_inTs ["plus", "less", "times", "min", "max"] (t2 _) ?_
      walk_at "sx"
      by_cases h2 : w ∈ (["plus", "less", "times", "min", "max"] : List Str)
      · refine ifT (dT h2) ?_
        walk_at "sx"
        refine sx_lenTd hx n1.h ?_
        walk_at "sx"
        have e1 : exprP ns w ds = two ds fun x y => some [srt "expression" x, srt "expression" y] := by unfold exprP; rw [if_neg h1, if_pos h2]
        by_cases h3 : ds.length = 2
        · obtain ⟨d1, d2, rfl⟩ := len2 h3
          refine ifT (int_eqT (by simp)) ?_
          walk_at "sx"
          refine sx_ixTd hx n1.h at1 fun v1 hv1 => ?_
          walk_at "sx"
          refine sx_newT n1.h (.cons (.str _) (.cons hv1 .nil)) (by simp) fun p3 B3 H3 hp3 n3 t3 => ?_
          walk_at "sx"
          refine sx_ixTd hx (n1.h.trans n3.ex) at2 fun v2 hv2 => ?_
          walk_at "sx"
          refine sx_newT n3.h (.cons (.str _) (.cons (Dp.up n3.b hv2) .nil)) (by simp) fun p4 B4 H4 hp4 n4 t4 => ?_
          walk_at "sx"
          refine sx_newM n4.h (by simp) fun p5 H5 hp5 n5 m5 => ?_
          rw [e1] at k
          exact k B4 H5 p5 _ (((n1.tr n3).tr n4).tr n5) ((n1.ex.trans (n3.ex.trans n4.ex)).free hp5) m5 (.cons (Dp.up n4.b t3) (.cons t4 .nil))
        · refine ifF (int_eqF (by simp; omega)) ?_
          walk_at "sx"
          rw [e1, two_no h3] at k
          exact k B H1 n1
      · refine ifF (dF h2) ?_
        walk_at "sx"
        intro a3 t3
        refine sx_inTs ["div", "rest"] (t3 _) ?_
        walk_at "sx"
        by_cases h3 : w ∈ (["div", "rest"] : List Str)
        · have e1 : exprP ns w ds = two ds fun x y => if isPos y then some [srt "expression" x] else none := by unfold exprP; rw [if_neg h1, if_neg h2, if_pos h3]
          rw [e1] at k
          refine ifT (dT h3) ?_
          walk_at "sx"
          refine sx_lenTd hx n1.h ?_
          walk_at "sx"
          by_cases h4 : ds.length = 2
          · obtain ⟨d1, d2, rfl⟩ := len2 h4
            refine ifT (int_eqT (by simp)) ?_
            walk_at "sx"
            refine sx_ixTd hx n1.h at2 fun v2 hv2 => ?_
            walk_at "sx"
            refine ⟨B, v2, d2, rfl, n1.h, hv2, fun B2 H2 n2 => ?_⟩
            walk_at "sx"
            cases h5 : isPos d2 with
            | true =>
              refine ifT rfl ?_
              walk_at "sx"
              refine sx_ixTd hx (n1.h.trans n2.ex) at1 fun v1 hv1 => ?_
              walk_at "sx"
              refine sx_newT n2.h (.cons (.str _) (.cons (Dp.up n2.b hv1) .nil)) (by simp) fun p3 B3 H3 hp3 n3 t3 => ?_
              walk_at "sx"
              refine sx_newM n3.h (by simp) fun p5 H5 hp5 n5 m5 => ?_
              have k : OptL K B H (if isPos d2 then some [srt "expression" d1] else none) Q := k
              rw [if_pos h5] at k
              exact k B3 H5 p5 _ (((n1.tr n2).tr n3).tr n5) ((n1.ex.trans (n2.ex.trans n3.ex)).free hp5) m5 (.cons t3 .nil)
            | false =>
              refine ifF rfl ?_
              walk_at "sx"
              have k : OptL K B H (if isPos d2 then some [srt "expression" d1] else none) Q := k
              rw [if_neg (by rw [h5]; exact Bool.false_ne_true)] at k
              exact k B2 H2 (n1.tr n2)
          · refine ifF (int_eqF (by simp; omega)) ?_
            refine ifF rfl ?_
            walk_at "sx"
            rw [two_no h4] at k
            exact k B H1 n1
        · have e1 : exprP ns w ds = none := by unfold exprP; rw [if_neg h1, if_neg h2, if_neg h3]
          rw [e1] at k
          refine ifF (dF h3) ?_
          refine ifF rfl ?_
          walk_at "sx"
          exact k B H1 n1
end
end C
namespace C
open PySem L2 G
section
variable {P : Program} {w : World} {K : PySem.W.Frag} {mg : Str → Option Value} {base : Heap}
def spCond (K : PySem.W.Frag) : Sp := fun vs H Q _ => ∃ (B : Hp) (x : V) (w : Str) (ds : List PyData), vs = [x] ∧ Ex B H ∧ Dp K B x (.tuple (.str w :: ds)) ∧ OptL K B H (condP w ds) Q
theorem ok_condition_parts (T : Txt w K mg) : Has P w K mg base "condition_parts" s_condition_parts 3 ["value"] (spCond K) := by
  refine has_mk T.d_condition_parts sc_condition_parts (fun _ _ _ _ _ _ us hl => match us, hl with | [_], _ => rfl) (fun vs H Q E h => ?_) (fun f cdv A outer s H vs Q E hr h => ?_)
  · obtain ⟨_, _, _, _, rfl, _⟩ := h
    rfl
  · obtain ⟨B, x, w, ds, rfl, e, hx, k⟩ := h
    refine ⟨_, (pss_cons (ps_set (i := 1) sc_condition_parts.nd rfl (.inl rfl) (pe_ix ix_tup (pv 0) pe_int (fun _ _ => rfl)))
      (pss_cons (ps_if (pt_cmpR op_eq (pv 1) (pe_gS (by rfl) T.g_NOT) (nomark _))
      (pss_one (ps_ret (pe_ifExp (pt_cmpR op_eq (pe_callB cl_len (by rfl) T.b_len (by decide +kernel) (pa_cons (pv 0) pa_nil)) pe_int (nomark _)) (pe_lst (pa_cons (pe_tup (pa_cons (pe_gS (by rfl) T.g_CONDITION) (pa_cons (pe_ix ix_tup (pv 0) pe_int (fun _ _ => rfl)) pa_nil))) pa_nil)) pe_non)))
      pss_nil)
      (pss_cons (ps_if (PW.pt (pw_and (pt_cmpR op_in_seq (pv 1) (pe_op op_catT (pe_gR (by rfl) T.g_COMPARED) (pe_gR (by rfl) T.g_JOINED)) (by rfl)) (pw_and1 (pt_cmpR op_eq (pe_callB cl_len (by rfl) T.b_len (by decide +kernel) (pa_cons (pv 0) pa_nil)) pe_int (nomark _)))))
      (pss_cons (ps_set (i := 2) sc_condition_parts.nd rfl (.inl rfl) (pe_ifExp (pt_cmpR op_in_seq (pv 1) (pe_gR (by rfl) T.g_COMPARED) (by rfl)) (pe_gS (by rfl) T.g_EXPRESSION) (pe_gS (by rfl) T.g_CONDITION)))
      (pss_one (ps_ret (pe_lst (pa_cons (pe_tup (pa_cons (pv 2) (pa_cons (pe_ix ix_tup (pv 0) pe_int (fun _ _ => rfl)) pa_nil))) (pa_cons (pe_tup (pa_cons (pv 2) (pa_cons (pe_ix ix_tup (pv 0) pe_int (fun _ _ => rfl)) pa_nil))) pa_nil))))))
      pss_nil)
      (pss_one (ps_ret pe_non))))), ?_⟩
    walk_at "go"
    refine sx_ixTd hx e at0 fun v hv => ?_
    cases Dp.str_v hv
    walk_at "sx"
    by_cases h1 : w = "not"
    · have e1 : condP w ds = one ds fun x => some [srt "condition" x] := by unfold condP; rw [if_pos h1]
      rw [e1] at k
      refine ifT (str_eqT h1) ?_
      walk_at "sx"
      refine sx_lenTd hx e ?_
      walk_at "sx"
      by_cases h3 : ds.length = 1
      · obtain ⟨d, rfl⟩ := len1 h3
        refine ifT (int_eqT (by simp)) ?_
        walk_at "sx"
        refine sx_ixTd hx e at1 fun v1 hv1 => ?_
        walk_at "sx"
        refine sx_newT e (.cons (.str _) (.cons hv1 .nil)) (by simp) fun p3 B3 H3 hp3 n3 t3 => ?_
        walk_at "sx"
        refine sx_newM n3.h (by simp) fun p5 H5 hp5 n5 m5 => ?_
        exact k B3 H5 p5 _ (n3.tr n5) (n3.ex.free hp5) m5 (.cons t3 .nil)
      · refine ifF (int_eqF (by simp; omega)) ?_
        walk_at "sx"
        rw [one_no h3] at k
        exact k B H (Nx.refl e)
    · have e1 : condP w ds = if w ∈ (["same", "below", "and", "or"] : List Str) then two ds fun x y => if w ∈ (["same", "below"] : List Str) then some [srt "expression" x, srt "expression" y] else some [srt "condition" x, srt "condition" y] else none := by unfold condP; rw [if_neg h1]
      rw [e1] at k
      refine ifF (str_eqF h1) ?_
      walk_at "sx"
      intro a1 t1
      walk_at "sx"
      intro a2 t2
      refine sx_catT e (t1 _) (t2 _) (by simp) (by simp) (by simp) fun p1 H1 hp1 n1 t3 => ?_
      refine sx_inTs ["same", "below", "and", "or"] (SqT.of t3) ?_
      walk_at "sx"
      by_cases h2 : w ∈ (["same", "below", "and", "or"] : List Str)
      · rw [if_pos h2] at k
        refine ifT (dT h2) ?_
        walk_at "sx"
        refine sx_lenTd hx n1.h ?_
        walk_at "sx"
        by_cases h3 : ds.length = 2
        · obtain ⟨d1, d2, rfl⟩ := len2 h3
          refine ifT (int_eqT (by simp)) ?_
          have fin : ∀ z : Str, OptL K B H (some [srt z d1, srt z d2]) Q → ∀ (σ : L2.St) D, D.rt = Q → σ[0]? = some (some x) → σ[2]? = some (some (.str z)) → tRet (tLst (tCons (tTup (tCons (tVar 2) (tCons (tOp (rIxT K) (tVar 0) (tC (.int 1))) tNil))) (tCons (tTup (tCons (tVar 2) (tCons (tOp (rIxT K) (tVar 0) (tC (.int 2))) tNil))) tNil))) D σ H1 := by
            intro z kz σ D hD h0 h2
            walk_at "sx"
            refine sx_var h2 ?_
            walk_at "sx"
            refine sx_var h0 ?_
            walk_at "sx"
            refine sx_ixTd hx n1.h at1 fun v1 hv1 => ?_
            walk_at "sx"
            refine sx_newT n1.h (.cons (.str _) (.cons hv1 .nil)) (by simp) fun p3 B3 H3 hp3 n3 t3 => ?_
            walk_at "sx"
            refine sx_var h2 ?_
            walk_at "sx"
            refine sx_var h0 ?_
            walk_at "sx"
            refine sx_ixTd hx (n1.h.trans n3.ex) at2 fun v2 hv2 => ?_
            walk_at "sx"
            refine sx_newT n3.h (.cons (.str _) (.cons (Dp.up n3.b hv2) .nil)) (by simp) fun p4 B4 H4 hp4 n4 t4 => ?_
            walk_at "sx"
            refine sx_newM n4.h (by simp) fun p5 H5 hp5 n5 m5 => ?_
            rw [hD]
            exact kz B4 H5 p5 _ (((n1.tr n3).tr n4).tr n5) ((n1.ex.trans (n3.ex.trans n4.ex)).free hp5) m5 (.cons (Dp.up n4.b t3) (.cons t4 .nil))
          walk_at "sx"
          intro a4 t4
          refine sx_inTs ["same", "below"] (t4 _) ?_
          walk_at "sx"
          have k : OptL K B H (if w ∈ (["same", "below"] : List Str) then some [srt "expression" d1, srt "expression" d2] else some [srt "condition" d1, srt "condition" d2]) Q := k
          by_cases h5 : w ∈ (["same", "below"] : List Str)
          · rw [if_pos h5] at k
            refine ifT (dT h5) ?_
            refine G.sx_c ?_
            refine G.sx_gname ?_
            exact fin _ k _ _ rfl rfl rfl
          · rw [if_neg h5] at k
            refine ifF (dF h5) ?_
            refine G.sx_c ?_
            refine G.sx_gname ?_
            exact fin _ k _ _ rfl rfl rfl
        · refine ifF (int_eqF (by simp; omega)) ?_
          walk_at "sx"
          rw [two_no h3] at k
          exact k B H1 n1
      · rw [if_neg h2] at k
        refine ifF (dF h2) ?_
        refine ifF rfl ?_
        walk_at "sx"
        exact k B H1 n1
/-! ### whether data are right, each by its sort -/
def partsP (ns : List Str) (s w : Str) (ds : List PyData) : Option (List PyData) := if s = "expression" then exprP ns w ds else condP w ds
def right (ns : List Str) : Nat → PyData → Bool
  | 0, _ => false
  | n + 1, q => match q with
    | .tuple [.str s, .tuple (.str w :: ds)] => (match partsP ns s w ds with
      | none => false
      | some ps => ps.all (right ns n))
    | _ => false
/-- parts: pairs of a sort and of one of the things -/
def wS : List PyData → Nat
  | [] => 0
  | q :: r => (szD q - 2) + wS r
theorem wS_app : ∀ a b : List PyData, wS (a ++ b) = wS a + wS b
  | [], b => by simp [wS]
  | x :: r, b => by
    show (szD x - 2) + wS (r ++ b) = (szD x - 2) + wS r + wS b
    rw [wS_app r b]
    omega
def Parts (ds : List PyData) (ps : List PyData) : Prop := (wS ps ≤ szDs ds ∧ ps.length ≤ 2) ∧ ∀ p ∈ ps, ∃ s d, p = srt s d ∧ szD d ≤ szDs ds
theorem szD_srt (s : Str) (d : PyData) : szD (srt s d) = szD d + 2 := by
  simp [srt, szD, szDs]
  omega
theorem parts_ok {ns : List Str} {s w : Str} {ds ps : List PyData} (h : partsP ns s w ds = some ps) : Parts ds ps := by
  have two_c : ∀ {f : PyData → PyData → Option (List PyData)}, two ds f = some ps → ∃ x y, ds = [x, y] ∧ f x y = some ps := by
    intro f h
    by_cases z : ds.length = 2
    · obtain ⟨x, y, rfl⟩ := len2 z
      exact ⟨x, y, rfl, h⟩
    · rw [two_no z] at h
      cases h
  unfold partsP at h
  split at h
  · unfold exprP at h
    split at h
    · unfold plainP at h
      have : ps = [] := by
        split at h
        · split at h
          · split at h <;> simp_all
          · split at h
            · split at h <;> simp_all
            · cases h
        · cases h
      subst this
      exact ⟨⟨Nat.zero_le _, Nat.zero_le _⟩, fun p hp => absurd hp (by simp)⟩
    · split at h
      · obtain ⟨x, y, rfl, e⟩ := two_c h
        have e := Option.some.inj e
        subst e
        refine ⟨⟨by simp [szDs, wS, szD_srt], by simp⟩, fun p hp => ?_⟩
        simp only [List.mem_cons, List.not_mem_nil, or_false] at hp
        rcases hp with rfl | rfl
        · exact ⟨_, x, rfl, by simp [szDs]⟩
        · exact ⟨_, y, rfl, by simp [szDs]⟩
      · split at h
        · obtain ⟨x, y, rfl, e⟩ := two_c h
          split at e
          · have e := Option.some.inj e
            subst e
            refine ⟨⟨by simp [szDs, wS, szD_srt], by simp⟩, fun p hp => ?_⟩
            simp only [List.mem_cons, List.not_mem_nil, or_false] at hp
            subst hp
            exact ⟨_, x, rfl, by simp [szDs]⟩
          · cases e
        · cases h
  · unfold condP at h
    split at h
    · by_cases z : ds.length = 1
      · obtain ⟨x, rfl⟩ := len1 z
        have e := Option.some.inj h
        subst e
        refine ⟨⟨by simp [szDs, wS, szD_srt], by simp⟩, fun p hp => ?_⟩
        simp only [List.mem_cons, List.not_mem_nil, or_false] at hp
        subst hp
        exact ⟨_, x, rfl, by simp [szDs]⟩
      · rw [one_no z] at h
        cases h
    · split at h
      · obtain ⟨x, y, rfl, e⟩ := two_c h
        split at e
        all_goals
          have e := Option.some.inj e
          subst e
          refine ⟨⟨by simp [szDs, wS, szD_srt], by simp⟩, fun p hp => ?_⟩
          simp only [List.mem_cons, List.not_mem_nil, or_false] at hp
          rcases hp with rfl | rfl
          · exact ⟨_, x, rfl, by simp [szDs]⟩
          · exact ⟨_, y, rfl, by simp [szDs]⟩
      · cases h
/-- enough turns -/
theorem right_fuel (ns : List Str) : ∀ (n m : Nat) (s : Str) (d : PyData), szD d ≤ n → szD d ≤ m → right ns n (srt s d) = right ns m (srt s d)
  | 0, _, s, d, h, _ => by have := szD_pos d; omega
  | _ + 1, 0, s, d, _, h => by have := szD_pos d; omega
  | n + 1, m + 1, s, d, h1, h2 => by
    cases d with
    | tuple es =>
      cases es with
      | nil => rfl
      | cons e0 ds =>
        cases e0 with
        | str w =>
          show (match partsP ns s w ds with
            | none => false
            | some ps => ps.all (right ns n)) = (match partsP ns s w ds with
            | none => false
            | some ps => ps.all (right ns m))
          cases hp : partsP ns s w ds with
          | none => rfl
          | some ps =>
            have ok := parts_ok hp
            show ps.all (right ns n) = ps.all (right ns m)
            have hz : szDs ds + 2 = szD (.tuple (.str w :: ds)) := by simp [szD, szDs]; omega
            rw [Bool.eq_iff_iff, List.all_eq_true, List.all_eq_true]
            constructor
            · intro h p hm
              obtain ⟨s', d', rfl, hd⟩ := ok.2 p hm
              rw [← right_fuel ns n m s' d' (by omega) (by omega)]
              exact h _ hm
            · intro h p hm
              obtain ⟨s', d', rfl, hd⟩ := ok.2 p hm
              rw [right_fuel ns n m s' d' (by omega) (by omega)]
              exact h _ hm
        | _ => rfl
    | _ => rfl
/-- whether a pair of a sort and of data is right -/
def rightD (ns : List Str) (q : PyData) : Bool := right ns (szD q) q
theorem rightD_no (ns : List Str) (s : Str) {d : PyData} (h : wordFirst d = false) : rightD ns (srt s d) = false := by
  unfold rightD
  rw [szD_srt]
  cases d with
  | tuple es =>
    cases es with
    | nil => rfl
    | cons e0 ds =>
      cases e0 with
      | str w => simp [wordFirst] at h
      | _ => rfl
  | _ => rfl
theorem rightD_parts (ns : List Str) (s w : Str) (ds : List PyData) : rightD ns (srt s (.tuple (.str w :: ds))) = (match partsP ns s w ds with
    | none => false
    | some ps => ps.all (rightD ns)) := by
  have hz : szD (srt s (.tuple (.str w :: ds))) = szDs ds + 3 + 1 := by simp [szD_srt, szD, szDs]; omega
  unfold rightD
  rw [hz]
  show (match partsP ns s w ds with
            | none => false
            | some ps => ps.all (right ns (szDs ds + 3))) = _
  cases hp : partsP ns s w ds with
  | none => rfl
  | some ps =>
    have ok := parts_ok hp
    show ps.all (right ns (szDs ds + 3)) = ps.all fun q => right ns (szD q) q
    rw [Bool.eq_iff_iff, List.all_eq_true, List.all_eq_true]
    constructor
    · intro h p hm
      obtain ⟨s', d', rfl, hd⟩ := ok.2 p hm
      rw [right_fuel ns (szD (srt s' d')) (szDs ds + 3) s' d' (by rw [szD_srt]; omega) (by omega)]
      exact h _ hm
    · intro h p hm
      obtain ⟨s', d', rfl, hd⟩ := ok.2 p hm
      rw [← right_fuel ns (szD (srt s' d')) (szDs ds + 3) s' d' (by rw [szD_srt]; omega) (by omega)]
      exact h _ hm
end
end C
namespace C
open PySem L2 G
section
variable {P : Program} {w : World} {K : PySem.W.Frag} {mg : Str → Option Value} {base : Heap}
theorem len_wS : ∀ {qs : List PyData}, (∀ p ∈ qs, ∃ s d, p = srt s d) → qs.length ≤ wS qs
  | [], _ => Nat.zero_le _
  | q :: r, h => by
    have ih := len_wS (qs := r) fun p hp => h p (List.mem_cons_of_mem _ hp)
    obtain ⟨s, d, rfl⟩ := h q List.mem_cons_self
    have := szD_pos d
    show r.length + 1 ≤ (szD (srt s d) - 2) + wS r
    rw [szD_srt]
    omega
def spRight (K : PySem.W.Frag) : Sp := fun vs H Q _ => ∃ (B : Hp) (a L : Addr) (ns : List Str) (xs : List V) (ps : List PyData), vs = [.ref a, .ref L] ∧ Ex B H ∧ SqT K B a (ns.map V.str) ∧ Mu B H L xs ∧ DpAll K B xs ps ∧ (∀ p ∈ ps, ∃ s d, p = srt s d) ∧ wS ps ≤ 30000 ∧
  ∀ B' H', Nx [L] B H B' H' → Q (.bl (ps.all (rightD ns))) H'
theorem ok_are_right (T : Txt w K mg) : Has P w K mg base "are_right" s_are_right 4 ["names", "todo"] (spRight K) := by
  refine has_mk T.d_are_right sc_are_right (fun _ _ _ _ _ _ us hl => match us, hl with | [_, _], _ => rfl) (fun vs H Q E h => ?_) (fun f cdv A outer s H vs Q E hr h => ?_)
  · obtain ⟨_, _, _, _, _, _, rfl, _⟩ := h
    rfl
  · obtain ⟨B, a, L, ns, xs, ps, rfl, e, hS, mL, hd, hp, hz, k⟩ := h
    refine ⟨_, (G.pss_cut (ps_while PassesOwn.never (pt_cmpR (op_neNilL hr.units) (pv 1) (pe_lst pa_nil) (nomark _))
      (pss_cons (ps_asg (pe_bm0 PySem.F.plainAttrs_list PySem.F.slot_list_pop PySem.F.type_list_pop mt_pop (pv 1)) (pg_tup (by rfl) (pgs_cons (pg_name (i := 2) sc_are_right.nd rfl (.inl rfl)) (pgs_cons (pg_name (i := 3) sc_are_right.nd rfl (.inl rfl)) pgs_nil))))
      (pss_cons (ps_if (pt_not (pt_val (pe_callH (ok_is_word_first T) hr (by rfl) (pa_cons (pv 3) pa_nil))))
      (pss_one (ps_ret pe_bl))
      pss_nil)
      (G.pss_cut (ps_set (i := 4) sc_are_right.nd rfl (.inl rfl) (pe_ifExp (pt_cmpR op_eq (pv 2) (pe_gS (by rfl) T.g_EXPRESSION) (nomark _)) (pe_callH (ok_expression_parts T) hr (by rfl) (pa_cons (pv 0) (pa_cons (pv 3) pa_nil))) (pe_callH (ok_condition_parts T) hr (by rfl) (pa_cons (pv 3) pa_nil))))
      (pss_cons (ps_if (pt_cmpR op_isN1 (pv 4) pe_non (nomark _))
      (pss_one (ps_ret pe_bl))
      pss_nil)
      (pss_one (ps_expr (pe_bm PySem.F.plainAttrs_list PySem.F.slot_list_extend PySem.F.type_list_extend mt_extend (pv 1) (pa_cons (pv 4) pa_nil)))))))))
      (pss_one (ps_ret pe_bl))), ?_⟩
    walk_at "go"
    refine G.sx_cut (fun σ H' => ps.all (rightD ns) = true ∧ ∃ B', Nx [L] B H B' H') ?_ ?_
    · refine ⟨fun m σ H' => ∃ (B' : Hp) (xs : List V) (qs : List PyData) (y2 y3 y4 : Option V), m = wS qs ∧ σ = [some (.ref a), some (.ref L), y2, y3, y4] ∧ Nx [L] B H B' H' ∧ Mu B' H' L xs ∧ DpAll K B' xs qs ∧ (∀ p ∈ qs, ∃ s d, p = srt s d) ∧ wS qs ≤ 30000 ∧ ps.all (rightD ns) = qs.all (rightD ns), ?_, ?_⟩
      · exact ⟨_, B, xs, ps, none, none, none, rfl, rfl, Nx.refl e, mL, hd, hp, hz, rfl⟩
      · rintro m σ H1 ⟨B1, xs1, qs, y2, y3, y4, rfl, rfl, n1, m1, d1, hp1, hz1, hq⟩
        have hin : ∀ b ∈ [L], H b ≠ none → H1 b ≠ none := fun b hb _ => by
          rw [List.mem_singleton] at hb
          subst hb
          rw [m1.h]
          exact fun z => nomatch z
        have hlen := Dps.len d1
        have hl1 := len_wS hp1
        walk_at "sx"
        refine sx_newM n1.h (by simp) fun p2 H2 hp2 n2 m2 => ?_
        have m1 := m1.up n2
        refine sx_neLd m1 m2.sq ?_
        walk_at "sx"
        by_cases he : qs = []
        · subst he
          have : xs1 = [] := List.length_eq_zero_iff.mp hlen
          subst this
          refine ifF rfl ?_
          exact ⟨hq, B1, n1.trans (n2.wk (by simp)) hin⟩
        · obtain ⟨r, q, rfl⟩ := snoc_of he
          obtain ⟨us, v, rfl, hus, hv⟩ := Dps.last d1
          obtain ⟨st, d, rfl⟩ := hp1 q (by simp)
          refine ifT (by simp) ?_
          refine ⟨_, fun _ _ h => h, ?_⟩
          walk_at "sx"
          refine sx_pop m1 n2.h fun H3 n3 m3 => ?_
          have n13 : Nx [L] B H B1 H3 := (n1.trans (n2.wk (by simp)) hin).trans n3 fun b hb _ => by
            rw [List.mem_singleton] at hb
            subst hb
            rw [m1.h]
            exact fun z => nomatch z
          refine sx_gtup2 hv n3.h fun v1 v2 e1 e2 => ?_
          cases Dp.str_v e1
          walk_at "sx"
          refine ⟨B1, v2, d, rfl, n3.h, e2, fun B4 H4 n4 => ?_⟩
          walk_at "sx"
          rw [List.all_append] at hq
          have hq1 : [srt st d].all (rightD ns) = rightD ns (srt st d) := by simp
          rw [hq1] at hq
          have hin3 : ∀ b ∈ [L], H b ≠ none → H3 b ≠ none := fun b hb _ => by
            rw [List.mem_singleton] at hb
            subst hb
            rw [m3.h]
            exact fun z => nomatch z
          have n14 : Nx [L] B H B4 H4 := n13.trans (n4.wk (by simp)) hin3
          cases hw : wordFirst d with
          | false =>
            refine ifT rfl ?_
            walk_at "sx"
            rw [rightD_no ns st hw, Bool.and_false] at hq
            have k := k B4 H4 n14
            rw [hq] at k
            exact k
          | true =>
            refine ifF rfl ?_
            walk_at "sx"
            obtain ⟨wd, ds, rfl⟩ : ∃ wd ds, d = .tuple (.str wd :: ds) := by
              cases d with
              | tuple es =>
                cases es with
                | nil => simp [wordFirst] at hw
                | cons e0 ds =>
                  cases e0 with
                  | str wd => exact ⟨wd, ds, rfl⟩
                  | _ => simp [wordFirst] at hw
              | _ => simp [wordFirst] at hw
            rw [rightD_parts] at hq
            have m4 := m3.up n4
            have e2' := Dp.up n4.b e2
            have hS4 := n4.b.t (n1.b.t hS)
            refine G.sx_cut (fun σ H' => ∃ y B5, σ = [some (.ref a), some (.ref L), some (.str st), some v2, some y] ∧ Nx [] B4 H4 B5 H' ∧ (match partsP ns st wd ds with
              | none => y = .non
              | some es => ∃ p xs', y = .ref p ∧ H4 p = none ∧ Mu B5 H' p xs' ∧ DpAll K B5 xs' es)) ?_ ?_
            · have hopt : ∀ R : V → Hp → Prop, (∀ y B5 H5, Nx [] B4 H4 B5 H5 → (match partsP ns st wd ds with
                  | none => y = .non
                  | some es => ∃ p xs', y = .ref p ∧ H4 p = none ∧ Mu B5 H5 p xs' ∧ DpAll K B5 xs' es) → R y H5) → OptL K B4 H4 (partsP ns st wd ds) R := by
                intro R hD
                cases hp : partsP ns st wd ds with
                | none => exact fun B5 H5 n5 => hD _ B5 H5 n5 (by rw [hp])
                | some es => exact fun B5 H5 p xs' n5 h1 h2 h3 => hD _ B5 H5 n5 (by rw [hp]; exact ⟨p, xs', rfl, h1, h2, h3⟩)
              walk_at "sx"
              by_cases hs : st = "expression"
              · refine ifT (str_eqT hs) ?_
                walk_at "sx"
                refine ⟨B4, a, ns, v2, wd, ds, rfl, n4.h, hS4, e2', ?_⟩
                have : partsP ns st wd ds = exprP ns wd ds := by unfold partsP; rw [if_pos hs]
                rw [← this]
                refine hopt _ fun y B5 H5 n5 h5 => ?_
                refine G.sx_gname ?_
                exact ⟨y, B5, rfl, n5, h5⟩
              · refine ifF (str_eqF hs) ?_
                walk_at "sx"
                refine ⟨B4, v2, wd, ds, rfl, n4.h, e2', ?_⟩
                have : partsP ns st wd ds = condP wd ds := by unfold partsP; rw [if_neg hs]
                rw [← this]
                refine hopt _ fun y B5 H5 n5 h5 => ?_
                refine G.sx_gname ?_
                exact ⟨y, B5, rfl, n5, h5⟩
            · rintro σ H5 ⟨y, B5, rfl, n5, h5⟩
              have n15 : Nx [L] B H B5 H5 := n14.trans (n5.wk (by simp)) fun b hb _ => by
                rw [List.mem_singleton] at hb
                subst hb
                rw [m4.h]
                exact fun z => nomatch z
              have m5 := m4.up n5
              walk_at "sx"
              cases hp : partsP ns st wd ds with
              | none =>
                rw [hp] at h5 hq
                have h5 : y = .non := h5
                subst h5
                refine ifT (by simp) ?_
                walk_at "sx"
                have hq : ps.all (rightD ns) = (r.all (rightD ns) && false) := hq
                rw [Bool.and_false] at hq
                have k := k B5 H5 n15
                rw [hq] at k
                exact k
              | some es =>
                rw [hp] at h5 hq
                obtain ⟨p, xs', rfl, hpn, mp, dp⟩ := h5
                have ok := parts_ok hp
                have hsz : wS [srt st (.tuple (.str wd :: ds))] = szDs ds + 2 := by simp [wS, szD_srt, szD, szDs]; omega
                rw [wS_app, hsz] at hz1
                have l1 := Dps.len hus
                have l2 := Dps.len dp
                have hl1 : r.length + 1 ≤ wS r + (szDs ds + 2) := by rw [wS_app, hsz] at hl1; simpa using hl1
                refine ifF (by simp) ?_
                walk_at "sx"
                refine sx_extend m5 n5.h mp.h (by rw [l1, l2]; have := ok.1.2; omega) fun H6 n6 m6 => ?_
                refine ⟨wS (r ++ es), ?_, B5, us ++ xs', r ++ es, _, _, _, rfl, rfl, n15.trans n6 ?_, m6, Dps.app (Dps.up (n4.b.trans n5.b) hus) dp, ?_, ?_, ?_⟩
                · rw [wS_app, wS_app, hsz]
                  have := ok.1.1
                  omega
                · intro b hb _
                  rw [List.mem_singleton] at hb
                  subst hb
                  rw [m5.h]
                  exact fun z => nomatch z
                · intro q hq
                  rcases List.mem_append.mp hq with h | h
                  · exact hp1 q (by simp [h])
                  · obtain ⟨s', d', e', _⟩ := ok.2 q h
                    exact ⟨s', d', e'⟩
                · rw [wS_app]
                  have := ok.1.1
                  omega
                · rw [List.all_append]
                  exact hq
    · rintro σ H' ⟨h, B', n⟩
      walk_at "sx"
      have k := k B' H' n
      rw [h] at k
      exact k
def spIs (K : PySem.W.Frag) (s : Str) : Sp := fun vs H Q _ => ∃ (B : Hp) (a : Addr) (ns : List Str) (x : V) (d : PyData), vs = [.ref a, x] ∧ Ex B H ∧ SqT K B a (ns.map V.str) ∧ Dp K B x d ∧ szD d ≤ 30000 ∧
  ∀ B' H', Nx [] B H B' H' → Q (.bl (rightD ns (srt s d))) H'
end
end C
namespace C
open PySem L2 G
section
variable {P : Program} {w : World} {K : PySem.W.Frag} {mg : Str → Option Value} {base : Heap}
/-! ### expressions and conditions as trees -/
inductive Tm where
  | num (i : Int)
  | fld (s : Str)
  | bin (w : Str) (a b : Tm)
  | cut (w : Str) (a : Tm) (n : Int)
  | neg (a : Tm)
def Tm.d : Tm → PyData
  | .num i => .tuple [.str "number", .int i]
  | .fld s => .tuple [.str "field", .str s]
  | .bin w a b => .tuple [.str w, a.d, b.d]
  | .cut w a n => .tuple [.str w, a.d, .int n]
  | .neg a => .tuple [.str "not", a.d]
def Tm.size : Tm → Nat
  | .num _ => 1
  | .fld _ => 1
  | .bin _ a b => a.size + b.size + 2
  | .cut _ a _ => a.size + 2
  | .neg a => a.size + 2
theorem Tm.size_pos (t : Tm) : 0 < t.size := by cases t <;> simp [Tm.size]
/-- leaves -/
def Tm.lv : Tm → Nat
  | .num _ => 1
  | .fld _ => 1
  | .bin _ a b => a.lv + b.lv
  | .cut _ a _ => a.lv
  | .neg a => a.lv
theorem Tm.lv_pos (t : Tm) : 0 < t.lv := by induction t <;> simp [Tm.lv] <;> omega
/-- the names of fields in it -/
def Tm.flds : Tm → List Str
  | .num _ => []
  | .fld s => [s]
  | .bin _ a b => a.flds ++ b.flds
  | .cut _ a _ => a.flds
  | .neg a => a.flds
/-- right ones: c tells whether a condition -/
def Tm.Ok : Bool → Tm → Prop
  | c, .num i => c = false ∧ i.natAbs < 2 ^ 20
  | c, .fld _ => c = false
  | c, .bin w a b => (c = false ∧ w ∈ (["plus", "less", "times", "min", "max"] : List Str) ∧ a.Ok false ∧ b.Ok false) ∨ (c = true ∧ w ∈ (["same", "below"] : List Str) ∧ a.Ok false ∧ b.Ok false) ∨ (c = true ∧ w ∈ (["and", "or"] : List Str) ∧ a.Ok true ∧ b.Ok true)
  | c, .cut w a n => c = false ∧ w ∈ (["div", "rest"] : List Str) ∧ 0 < n ∧ n < 1000000 ∧ a.Ok false
  | c, .neg a => c = true ∧ a.Ok true
/-- what two worths come to -/
def op2 (w : Str) (x y : PyData) : PyData := match x, y with
  | .int i, .int j => if w = "plus" then .int (i + j) else if w = "less" then .int (i - j) else if w = "times" then .int (i * j) else if w = "min" then .int (if j < i then j else i) else if w = "max" then .int (if j > i then j else i) else if w = "same" then .bool (decide (i = j)) else .bool (decide (i < j))
  | .bool p, .bool q => if w = "and" then .bool (p && q) else .bool (p || q)
  | _, _ => .none
def op1 (w : Str) (n : Int) (x : PyData) : PyData := match x with
  | .int i => if w = "div" then .int (i / n) else .int (i % n)
  | _ => .none
def opN (x : PyData) : PyData := match x with
  | .bool p => .bool (!p)
  | _ => .none
def Tm.ev (env : Str → Int) : Tm → PyData
  | .num i => .int i
  | .fld s => .int (env s)
  | .bin w a b => op2 w (a.ev env) (b.ev env)
  | .cut w a n => op1 w n (a.ev env)
  | .neg a => opN (a.ev env)
/-- what comes out: an int of bounded size, or a bool -/
def Worth (c : Bool) (b : Nat) (d : PyData) : Prop := if c then ∃ p, d = .bool p else ∃ i : Int, d = .int i ∧ i.natAbs < 2 ^ b
theorem pow_add_le {a b : Nat} (ha : 0 < a) (hb : 0 < b) : 2 ^ a + 2 ^ b ≤ 2 ^ (a + b) := by
  rw [Nat.pow_add]
  have h1 : 2 ≤ 2 ^ a := by have := Nat.pow_le_pow_right (n := 2) (by decide) ha; simpa using this
  have h2 : 2 ≤ 2 ^ b := by have := Nat.pow_le_pow_right (n := 2) (by decide) hb; simpa using this
  generalize 2 ^ a = x at *
  generalize 2 ^ b = y at *
  obtain ⟨x', rfl⟩ : ∃ x', x = x' + 2 := ⟨x - 2, by omega⟩
  obtain ⟨y', rfl⟩ : ∃ y', y = y' + 2 := ⟨y - 2, by omega⟩
  rw [Nat.mul_add, Nat.add_mul]
  have : 0 ≤ x' * y' := Nat.zero_le _
  omega
theorem pow_mono {a b : Nat} (h : a ≤ b) : 2 ^ a ≤ 2 ^ b := Nat.pow_le_pow_right (by decide) h
theorem Tm.ev_ok {env : Str → Int} : ∀ {t : Tm} {c : Bool}, t.Ok c → (∀ s ∈ t.flds, (env s).natAbs < 2 ^ 20) → Worth c (20 * t.lv) (t.ev env)
  | .num i, c, h, _ => by
    obtain ⟨rfl, h⟩ := h
    exact ⟨i, rfl, h⟩
  | .fld s, c, h, he => by
    have h : c = false := h
    subst h
    exact ⟨_, rfl, he s (by simp [Tm.flds])⟩
  | .bin w a b, c, h, he => by
    have la := a.lv_pos
    have lb := b.lv_pos
    have hea : ∀ s ∈ a.flds, (env s).natAbs < 2 ^ 20 := fun s hs => he s (by simp [Tm.flds, hs])
    have heb : ∀ s ∈ b.flds, (env s).natAbs < 2 ^ 20 := fun s hs => he s (by simp [Tm.flds, hs])
    rcases h with ⟨rfl, hw, ha, hb⟩ | ⟨rfl, hw, ha, hb⟩ | ⟨rfl, hw, ha, hb⟩
    · obtain ⟨i, ei, hi⟩ := Tm.ev_ok ha hea
      obtain ⟨j, ej, hj⟩ := Tm.ev_ok hb heb
      have hle : 2 ^ (20 * a.lv) + 2 ^ (20 * b.lv) ≤ 2 ^ (20 * (a.lv + b.lv)) := by
        rw [Nat.mul_add]
        exact pow_add_le (by omega) (by omega)
      have ha1 : 2 ^ (20 * a.lv) ≤ 2 ^ (20 * (a.lv + b.lv)) := pow_mono (by omega)
      have hb1 : 2 ^ (20 * b.lv) ≤ 2 ^ (20 * (a.lv + b.lv)) := pow_mono (by omega)
      show ∃ k : Int, op2 w (a.ev env) (b.ev env) = .int k ∧ k.natAbs < 2 ^ (20 * (a.lv + b.lv))
      rw [ei, ej]
      simp only [op2]
      simp only [List.mem_cons, List.not_mem_nil, or_false] at hw
      rcases hw with rfl | rfl | rfl | rfl | rfl
      · rw [if_pos rfl]
        exact ⟨_, rfl, by omega⟩
      · rw [if_neg (by decide +kernel), if_pos rfl]
        exact ⟨_, rfl, by omega⟩
      · rw [if_neg (by decide +kernel), if_neg (by decide +kernel), if_pos rfl]
        refine ⟨_, rfl, ?_⟩
        rw [Int.natAbs_mul, Nat.mul_add, Nat.pow_add]
        exact Nat.mul_lt_mul'' hi hj
      · rw [if_neg (by decide +kernel), if_neg (by decide +kernel), if_neg (by decide +kernel), if_pos rfl]
        refine ⟨_, rfl, ?_⟩
        split <;> omega
      · rw [if_neg (by decide +kernel), if_neg (by decide +kernel), if_neg (by decide +kernel), if_neg (by decide +kernel), if_pos rfl]
        refine ⟨_, rfl, ?_⟩
        split <;> omega
    · obtain ⟨i, ei, hi⟩ := Tm.ev_ok ha hea
      obtain ⟨j, ej, hj⟩ := Tm.ev_ok hb heb
      show ∃ p, op2 w (a.ev env) (b.ev env) = .bool p
      rw [ei, ej]
      simp only [op2]
      simp only [List.mem_cons, List.not_mem_nil, or_false] at hw
      rcases hw with rfl | rfl
      · rw [if_neg (by decide +kernel), if_neg (by decide +kernel), if_neg (by decide +kernel), if_neg (by decide +kernel), if_neg (by decide +kernel), if_pos rfl]
        exact ⟨_, rfl⟩
      · rw [if_neg (by decide +kernel), if_neg (by decide +kernel), if_neg (by decide +kernel), if_neg (by decide +kernel), if_neg (by decide +kernel), if_neg (by decide +kernel)]
        exact ⟨_, rfl⟩
    · obtain ⟨p, ep⟩ := Tm.ev_ok ha hea
      obtain ⟨q, eq⟩ := Tm.ev_ok hb heb
      show ∃ p, op2 w (a.ev env) (b.ev env) = .bool p
      rw [ep, eq]
      simp only [op2]
      split
      · exact ⟨_, rfl⟩
      · exact ⟨_, rfl⟩
  | .cut w a n, c, h, he => by
    obtain ⟨rfl, hw, n0, n1, ha⟩ := h
    obtain ⟨i, ei, hi⟩ := Tm.ev_ok ha he
    show ∃ k : Int, op1 w n (a.ev env) = .int k ∧ k.natAbs < 2 ^ (20 * a.lv)
    rw [ei]
    simp only [op1]
    have la := a.lv_pos
    have h20 : 2 ^ 20 ≤ 2 ^ (20 * a.lv) := pow_mono (by omega)
    split
    · refine ⟨_, rfl, ?_⟩
      have h1 : (i / n).natAbs ≤ i.natAbs := Int.natAbs_ediv_le_natAbs i n
      omega
    · refine ⟨_, rfl, ?_⟩
      have h1 := Int.emod_nonneg i (show n ≠ 0 by omega)
      have h2 := Int.emod_lt_of_pos i n0
      omega
  | .neg a, c, h, he => by
    obtain ⟨rfl, ha⟩ := h
    obtain ⟨p, ep⟩ := Tm.ev_ok ha he
    show ∃ p, opN (a.ev env) = .bool p
    rw [ep]
    exact ⟨_, rfl⟩
end
end C
namespace C
open PySem L2 G
section
variable {P : Program} {w : World} {K : PySem.W.Frag} {mg : Str → Option Value} {base : Heap}
/-! ### steps -/
def stp (w : Str) (n : Int) : PyData := .tuple [.str "step", .str w, .int n]
def post : Tm → List PyData
  | .num i => [Tm.d (.num i)]
  | .fld s => [Tm.d (.fld s)]
  | .bin w a b => post a ++ post b ++ [stp w 0]
  | .cut w a n => post a ++ [stp w n]
  | .neg a => post a ++ [stp "not" 0]
abbrev Item := Tm ⊕ (Str × Int)
def Item.d : Item → PyData
  | .inl t => t.d
  | .inr (w, n) => stp w n
def postI : Item → List PyData
  | .inl t => post t
  | .inr (w, n) => [stp w n]
def szI : Item → Nat
  | .inl t => t.size
  | .inr _ => 1
def kids : Tm → List Item
  | .bin w a b => [.inl a, .inl b, .inr (w, 0)]
  | .cut w a n => [.inl a, .inr (w, n)]
  | .neg a => [.inl a, .inr ("not", 0)]
  | _ => []
def comp : Tm → Bool
  | .num _ => false
  | .fld _ => false
  | _ => true
theorem post_kids {t : Tm} (h : comp t = true) : post t = (kids t).flatMap postI := by
  cases t with
  | num i => cases h
  | fld s => cases h
  | bin w a b => simp [post, kids, postI]
  | cut w a n => simp [post, kids, postI]
  | neg a => simp [post, kids, postI]
theorem size_kids {t : Tm} (h : comp t = true) : ((kids t).map szI).sum + 1 = t.size := by
  cases t with
  | num i => cases h
  | fld s => cases h
  | bin w a b => simp [kids, szI, Tm.size]; omega
  | cut w a n => simp [kids, szI, Tm.size]
  | neg a => simp [kids, szI, Tm.size]
theorem post_len : ∀ t : Tm, (post t).length ≤ t.size
  | .num _ => Nat.le_refl _
  | .fld _ => Nat.le_refl _
  | .bin w a b => by
    have := post_len a
    have := post_len b
    simp [post, Tm.size]
    omega
  | .cut w a n => by
    have := post_len a
    simp [post, Tm.size]
    omega
  | .neg a => by
    have := post_len a
    simp [post, Tm.size]
    omega
/-- the words are right ones, whatever the sorts -/
def Tm.W : Tm → Prop
  | .num _ => True
  | .fld _ => True
  | .bin w a b => w ∈ (["plus", "less", "times", "min", "max", "same", "below", "and", "or"] : List Str) ∧ a.W ∧ b.W
  | .cut w a _ => w ∈ (["div", "rest"] : List Str) ∧ a.W
  | .neg a => a.W
theorem Tm.Ok.wd : ∀ {t : Tm} {c : Bool}, t.Ok c → t.W
  | .num _, _, _ => trivial
  | .fld _, _, _ => trivial
  | .bin w a b, c, h => by
    rcases h with ⟨_, hw, ha, hb⟩ | ⟨_, hw, ha, hb⟩ | ⟨_, hw, ha, hb⟩
    all_goals
      refine ⟨?_, ha.wd, hb.wd⟩
      simp only [List.mem_cons, List.not_mem_nil, or_false] at hw ⊢
    · rcases hw with h | h | h | h | h <;> simp [h]
    · rcases hw with h | h <;> simp [h]
    · rcases hw with h | h <;> simp [h]
  | .cut w a n, c, h => ⟨h.2.1, h.2.2.2.2.wd⟩
  | .neg a, c, h => Tm.Ok.wd (t := a) h.2
/-- the first word -/
def fst : Tm → Str
  | .num _ => "number"
  | .fld _ => "field"
  | .bin w _ _ => w
  | .cut w _ _ => w
  | .neg _ => "not"
theorem tm_d (t : Tm) : ∃ ds, t.d = .tuple (.str (fst t) :: ds) := by cases t <;> exact ⟨_, rfl⟩
theorem key_words : ∀ w ∈ (["plus", "less", "times", "min", "max", "same", "below", "and", "or", "div", "rest", "not"] : List Str), w ∉ (["step", "number", "field"] : List Str) := by decide +kernel
theorem key_cut : ∀ w ∈ (["plus", "less", "times", "min", "max", "same", "below", "and", "or", "not"] : List Str), w ∉ (["div", "rest"] : List Str) := by decide +kernel
theorem comp_word {t : Tm} (h : t.W) (hc : comp t = true) : fst t ∉ (["step", "number", "field"] : List Str) := by
  refine key_words _ ?_
  cases t with
  | num i => cases hc
  | fld s => cases hc
  | bin w a b =>
    have hw := h.1
    show w ∈ _
    simp only [List.mem_cons, List.not_mem_nil, or_false] at hw ⊢
    rcases hw with h | h | h | h | h | h | h | h | h <;> simp [h]
  | cut w a n =>
    have hw := h.1
    show w ∈ _
    simp only [List.mem_cons, List.not_mem_nil, or_false] at hw ⊢
    rcases hw with h | h <;> simp [h]
  | neg a => simp [fst]
theorem comp_no {t : Tm} (hc : comp t = false) : fst t ∈ (["step", "number", "field"] : List Str) := by
  cases t with
  | num i => simp [fst]
  | fld s => simp [fst]
  | bin w a b => cases hc
  | cut w a n => cases hc
  | neg a => cases hc
/-- things_of -/
def spThings (K : PySem.W.Frag) : Sp := fun vs H Q _ => ∃ (B : Hp) (x : V) (t : Tm), vs = [x] ∧ Ex B H ∧ Dp K B x t.d ∧ t.W ∧ comp t = true ∧
  ∀ B' H' p xs, Nx [] B H B' H' → H p = none → Mu B' H' p xs → DpAll K B' xs ((kids t).map Item.d) → Q (.ref p) H'
theorem ok_things_of (T : Txt w K mg) : Has P w K mg base "things_of" s_things_of 1 ["thing"] (spThings K) := by
  refine has_mk T.d_things_of sc_things_of (fun _ _ _ _ _ _ us hl => match us, hl with | [_], _ => rfl) (fun vs H Q E h => ?_) (fun f cdv A outer s H vs Q E hr h => ?_)
  · obtain ⟨_, _, _, rfl, _⟩ := h
    rfl
  · obtain ⟨B, x, t, rfl, e, hx, hw, hc, k⟩ := h
    refine ⟨_, (pss_cons (ps_set (i := 1) sc_things_of.nd rfl (.inl rfl) (pe_ix ix_tup (pv 0) pe_int (fun _ _ => rfl)))
      (pss_cons (ps_if (pt_cmpR op_in_seq (pv 1) (pe_gR (by rfl) T.g_CUT) (by rfl))
      (pss_one (ps_ret (pe_lst (pa_cons (pe_ix ix_tup (pv 0) pe_int (fun _ _ => rfl)) (pa_cons (pe_tup (pa_cons (pe_gS (by rfl) T.g_STEP) (pa_cons (pv 1) (pa_cons (pe_ix ix_tup (pv 0) pe_int (fun _ _ => rfl)) pa_nil)))) pa_nil)))))
      pss_nil)
      (pss_one (ps_ret (pe_op op_cat (pe_callTy cl_list (by rfl) T.b_list (by decide +kernel) (pa_cons (pe_slice sl_tup (pv 0) (po_some pe_int) po_none) pa_nil)) (pe_lst (pa_cons (pe_tup (pa_cons (pe_gS (by rfl) T.g_STEP) (pa_cons (pv 1) (pa_cons pe_int pa_nil)))) pa_nil))))))), ?_⟩
    walk_at "go"
    obtain ⟨ds, ed⟩ := tm_d t
    have hx1 := hx
    rw [ed] at hx1
    refine sx_ixTd hx1 e at0 fun v hv => ?_
    cases Dp.str_v hv
    walk_at "sx"
    intro a1 t1
    refine sx_inTs ["div", "rest"] (t1 _) ?_
    walk_at "sx"
    cases t with
    | num i => cases hc
    | fld s => cases hc
    | cut w a n =>
      refine ifT (dT hw.1) ?_
      walk_at "sx"
      refine sx_ixTd hx e at1 fun v1 h1 => ?_
      walk_at "sx"
      refine sx_ixTd hx e at2 fun v2 h2 => ?_
      walk_at "sx"
      refine sx_newT e (.cons (.str _) (.cons (.str _) (.cons h2 .nil))) (by simp) fun p1 B1 H1 hp1 n1 d1 => ?_
      walk_at "sx"
      refine sx_newM n1.h (by simp) fun p2 H2 hp2 n2 m2 => ?_
      exact k B1 H2 p2 _ (n1.tr n2) (n1.ex.free hp2) m2 (.cons (Dp.up n1.b h1) (.cons d1 .nil))
    | bin w a b =>
      have hn : ¬ w ∈ (["div", "rest"] : List Str) := key_cut w (by
        have hw := hw.1
        simp only [List.mem_cons, List.not_mem_nil, or_false] at hw ⊢
        rcases hw with h | h | h | h | h | h | h | h | h <;> simp [h])
      refine ifF (dF hn) ?_
      walk_at "sx"
      refine sx_tail hx e fun p1 B1 H1 hp1 n1 d1 => ?_
      walk_at "sx"
      refine sx_listTd d1 n1.h fun p2 xs H2 hp2 n2 m2 ds2 => ?_
      walk_at "sx"
      refine sx_newT (K := K) n2.h (.cons (.str _) (.cons (.str _) (.cons (.int _) .nil))) (by simp) fun p3 B3 H3 hp3 n3 d3 => ?_
      walk_at "sx"
      refine sx_newM n3.h (by simp) fun p4 H4 hp4 n4 m4 => ?_
      have hl := Dps.len ds2
      refine sx_cat n4.h ((m2.up n3).up n4).h m4.h (by rw [hl]; simp) fun p5 H5 hp5 n5 m5 => ?_
      exact k B3 H5 p5 _ ((((n1.tr n2).tr n3).tr n4).tr n5) ((((n1.tr n2).tr n3).tr n4).ex.free hp5) m5 (Dps.app (Dps.up n3.b ds2) (.cons d3 .nil))
    | neg a =>
      refine ifF (dF (key_cut "not" (by simp))) ?_
      walk_at "sx"
      refine sx_tail hx e fun p1 B1 H1 hp1 n1 d1 => ?_
      walk_at "sx"
      refine sx_listTd d1 n1.h fun p2 xs H2 hp2 n2 m2 ds2 => ?_
      walk_at "sx"
      refine sx_newT (K := K) n2.h (.cons (.str _) (.cons (.str _) (.cons (.int _) .nil))) (by simp) fun p3 B3 H3 hp3 n3 d3 => ?_
      walk_at "sx"
      refine sx_newM n3.h (by simp) fun p4 H4 hp4 n4 m4 => ?_
      have hl := Dps.len ds2
      refine sx_cat n4.h ((m2.up n3).up n4).h m4.h (by rw [hl]; simp) fun p5 H5 hp5 n5 m5 => ?_
      exact k B3 H5 p5 _ ((((n1.tr n2).tr n3).tr n4).tr n5) ((((n1.tr n2).tr n3).tr n4).ex.free hp5) m5 (Dps.app (Dps.up n3.b ds2) (.cons d3 .nil))
end
end C
namespace C
open PySem L2 G
section
variable {P : Program} {w : World} {K : PySem.W.Frag} {mg : Str → Option Value} {base : Heap}
def Item.W : Item → Prop
  | .inl t => t.W
  | .inr _ => True
theorem item_word (it : Item) : ∃ w ds, Item.d it = .tuple (.str w :: ds) ∧ (∀ n, it = .inr n → w = "step") ∧ (∀ t, it = .inl t → w = fst t) := by
  cases it with
  | inl t =>
    obtain ⟨ds, h⟩ := tm_d t
    exact ⟨_, ds, h, fun n z => (by cases z), fun t' z => (by cases z; rfl)⟩
  | inr q =>
    obtain ⟨w, n⟩ := q
    exact ⟨_, _, rfl, fun n z => rfl, fun t z => by cases z⟩
theorem szI_pos (it : Item) : 0 < szI it := by
  cases it with
  | inl t => exact t.size_pos
  | inr q => exact Nat.zero_lt_one
theorem its_len (its : List Item) : its.length ≤ (its.map szI).sum := by
  induction its with
  | nil => exact Nat.le_refl _
  | cons x r ih =>
    have := szI_pos x
    rw [List.map_cons, List.sum_cons, List.length_cons]
    omega
theorem kids_W {t : Tm} (h : t.W) : ∀ it ∈ kids t, Item.W it := by
  cases t with
  | num i => intro it hi; cases hi
  | fld s => intro it hi; cases hi
  | bin w a b =>
    intro it hi
    simp only [kids, List.mem_cons, List.not_mem_nil, or_false] at hi
    rcases hi with rfl | rfl | rfl
    · exact h.2.1
    · exact h.2.2
    · trivial
  | cut w a n =>
    intro it hi
    simp only [kids, List.mem_cons, List.not_mem_nil, or_false] at hi
    rcases hi with rfl | rfl
    · exact h.2
    · trivial
  | neg a =>
    intro it hi
    simp only [kids, List.mem_cons, List.not_mem_nil, or_false] at hi
    rcases hi with rfl | rfl
    · exact h
    · trivial
/-- steps_of -/
def spSteps (K : PySem.W.Frag) : Sp := fun vs H Q _ => ∃ (B : Hp) (x : V) (t : Tm), vs = [x] ∧ Ex B H ∧ Dp K B x t.d ∧ t.W ∧ t.size ≤ 20000 ∧
  ∀ B' H' p xs, Nx [] B H B' H' → H p = none → Mu B' H' p xs → DpAll K B' xs (post t) → Q (.ref p) H'
theorem ok_steps_of (T : Txt w K mg) : Has P w K mg base "steps_of" s_steps_of 2 ["thing"] (spSteps K) := by
  refine has_mk T.d_steps_of sc_steps_of (fun _ _ _ _ _ _ us hl => match us, hl with | [_], _ => rfl) (fun vs H Q E h => ?_) (fun f cdv A outer s H vs Q E hr h => ?_)
  · obtain ⟨_, _, _, rfl, _⟩ := h
    rfl
  · obtain ⟨B, x, t, rfl, e, hx, hw, hz, k⟩ := h
    refine ⟨_, (pss_cons (ps_par (i := 1) (j := 2) (by rfl) sc_steps_of.nd rfl rfl (by decide) rfl rfl (pa_cons (pe_lst pa_nil) (pa_cons (pe_lst (pa_cons (pv 0) pa_nil)) pa_nil)) (by rfl))
      (G.pss_cut (ps_while PassesOwn.never (pt_cmpR (op_neNilL hr.units) (pv 2) (pe_lst pa_nil) (nomark _))
      (pss_cons (ps_set (i := 3) sc_steps_of.nd rfl (.inl rfl) (pe_bm0 PySem.F.plainAttrs_list PySem.F.slot_list_pop PySem.F.type_list_pop mt_pop (pv 2)))
      (pss_one (ps_if (pt_cmpR op_in_seq (pe_ix ix_tup (pv 3) pe_int (fun _ _ => rfl)) (pe_tup (pa_cons (pe_gS (by rfl) T.g_STEP) (pa_cons (pe_gS (by rfl) T.g_NUMBER) (pa_cons (pe_gS (by rfl) T.g_FIELD) pa_nil)))) (by rfl))
      (pss_one (ps_expr (pe_bm PySem.F.plainAttrs_list PySem.F.slot_list_append PySem.F.type_list_append mt_append (pv 1) (pa_cons (pv 3) pa_nil))))
      (pss_one (ps_expr (pe_bm PySem.F.plainAttrs_list PySem.F.slot_list_extend PySem.F.type_list_extend mt_extend (pv 2) (pa_cons (pe_revL (pe_callH (ok_things_of T) hr (by rfl) (pa_cons (pv 3) pa_nil))) pa_nil))))))))
      (pss_one (ps_ret (pv 1))))), ?_⟩
    walk_at "go"
    refine sx_newM e (by simp) fun Lf H1 hf n1 mf => ?_
    walk_at "sx"
    refine sx_newM n1.h (by simp) fun Lt H2 ht n2 mt => ?_
    walk_at "sx"
    walk_at "st"
    have hf0 : H Lf = none := hf
    have ht0 : H Lt = none := n1.ex.free ht
    have hne : Lf ≠ Lt := mf.ne' ht
    refine G.sx_cut (fun σ H' => ∃ (B' : Hp) (fx : List V) (y : Option V), σ = [some x, some (.ref Lf), some (.ref Lt), y] ∧ Nx [] B H B' H' ∧ Mu B' H' Lf fx ∧ DpAll K B' fx (post t)) ?_ ?_
    · refine ⟨fun m σ H' => ∃ (B' : Hp) (fx tx : List V) (fs : List PyData) (its : List Item) (y : Option V), m = (its.map szI).sum ∧ σ = [some x, some (.ref Lf), some (.ref Lt), y] ∧ Nx [] B H B' H' ∧ Mu B' H' Lf fx ∧ Mu B' H' Lt tx ∧ DpAll K B' fx fs ∧ DpAll K B' tx (its.map Item.d) ∧ (∀ it ∈ its, Item.W it) ∧ fs ++ its.reverse.flatMap postI = post t ∧ (its.map szI).sum ≤ 20000, ?_, ?_⟩
      · refine ⟨_, B, [], [x], [], [.inl t], none, rfl, rfl, n1.tr n2, mf.up n2, mt, .nil, .cons hx .nil, ?_, ?_, ?_⟩
        · intro it hi
          rw [List.mem_singleton] at hi
          subst hi
          exact hw
        · simp [postI]
        · simp [szI]
          exact hz
      · rintro m σ H3 ⟨B3, fx, tx, fs, its, y, rfl, rfl, n3, m3f, m3t, d3f, d3t, w3, e3, z3⟩
        have l3 := Dps.len d3t
        rw [List.length_map] at l3
        have l3' := its_len its
        walk_at "sx"
        refine sx_newM n3.h (by simp) fun p4 H4 hp4 n4 m4 => ?_
        have m4f := m3f.up n4
        have m4t := m3t.up n4
        have n34 := n3.tr n4
        refine sx_neLd m4t m4.sq ?_
        walk_at "sx"
        by_cases he : its = []
        · subst he
          have : tx = [] := List.length_eq_zero_iff.mp l3
          subst this
          refine ifF rfl ?_
          rw [List.reverse_nil, List.flatMap_nil, List.append_nil] at e3
          exact ⟨B3, fx, y, rfl, n34, m4f, by rw [← e3]; exact d3f⟩
        · obtain ⟨r, it, rfl⟩ := snoc_of he
          rw [List.map_append, List.map_singleton] at d3t
          obtain ⟨us, v, rfl, hus, hv⟩ := Dps.last d3t
          rw [List.reverse_append, List.reverse_singleton, List.singleton_append, List.flatMap_cons] at e3
          rw [List.map_append, List.sum_append] at z3
          have wI := w3 it (by simp)
          refine ifT (by simp) ?_
          refine ⟨_, fun _ _ h => h, ?_⟩
          walk_at "sx"
          refine sx_pop m4t n4.h fun H5 n5 m5t => ?_
          have m5f := m4f.up n5 (by simp [hne])
          have n35 := n34.loc n5 (by simp [ht0])
          walk_at "sx"
          obtain ⟨wd, ds, ed, h1, h2⟩ := item_word it
          have hv' := hv
          rw [ed] at hv'
          refine sx_ixTd hv' n5.h at0 fun v1 hv1 => ?_
          cases Dp.str_v hv1
          walk_at "sx"
          refine sx_newTp n5.h (by simp) fun p6 H6 hp6 n6 t6 => ?_
          have m6f := m5f.up n6
          have m6t := m5t.up n6
          have n36 := n35.tr n6
          refine sx_inTs ["step", "number", "field"] (SqT.of t6) ?_
          walk_at "sx"
          have lf := Dps.len d3f
          have lpost := congrArg List.length e3
          rw [List.length_append, List.length_append] at lpost
          have lpt := post_len t
          have lI := its_len r
          have done : wd ∈ (["step", "number", "field"] : List Str) → postI it = [Item.d it] → ∀ D : Ends, (∀ B' (fx' tx' : List V) H', Nx [] B H B' H' → Mu B' H' Lf fx' → Mu B' H' Lt us → DpAll K B' fx' (fs ++ [Item.d it]) → D.nx [some x, some (.ref Lf), some (.ref Lt), some v] H') → True := fun _ _ _ _ => trivial
          by_cases hcI : wd ∈ (["step", "number", "field"] : List Str)
          · have hp : postI it = [Item.d it] := by
              cases it with
              | inr q => rfl
              | inl t' =>
                have hc : comp t' = false := by
                  cases z : comp t' with
                  | false => rfl
                  | true => exact absurd hcI (by rw [h2 t' rfl]; exact comp_word wI z)
                cases t' with
                | num i => rfl
                | fld s => rfl
                | bin w a b => cases hc
                | cut w a n => cases hc
                | neg a => cases hc
            rw [hp] at e3 lpost
            refine ifT (dT hcI) ?_
            walk_at "sx"
            refine sx_append m6f n6.h (by simp at lpost; omega) fun H7 n7 m7f => ?_
            refine ⟨(r.map szI).sum, ?_, B3, _, us, fs ++ [Item.d it], r, _, rfl, rfl, n36.loc n7 (by simp [hf0]), m7f, m6t.up n7 (by simp [hne.symm]), Dps.app d3f (.cons hv .nil), hus, fun i hi => w3 i (by simp [hi]), ?_, by omega⟩
            · have := szI_pos it
              simp
              omega
            · rw [← e3, List.append_assoc]
          · obtain ⟨t', rfl⟩ : ∃ t', it = .inl t' := by
              cases it with
              | inl t' => exact ⟨t', rfl⟩
              | inr q => exact absurd (by rw [h1 q rfl]; simp) hcI
            have hc : comp t' = true := by
              cases z : comp t' with
              | true => rfl
              | false => exact absurd (by rw [h2 t' rfl]; exact comp_no z) hcI
            have hsk := size_kids hc
            have hz' : ([Sum.inl t'].map szI : List Nat).sum = t'.size := by simp [szI]
            refine ifF (dF hcI) ?_
            walk_at "sx"
            refine ⟨B3, v, t', rfl, n6.h, hv, wI, hc, fun B7 H7 p7 xs7 n7 hp7 m7 d7 => ?_⟩
            refine sx_revL2 n7.h m7.sq fun p8 H8 hp8 n8 m8 => ?_
            walk_at "sx"
            have m8t := (m6t.up n7).up n8
            have l7 := Dps.len d7
            rw [List.length_map] at l7
            have lk := its_len (kids t')
            refine sx_extend m8t n8.h m8.h (by have := Dps.len hus; rw [List.length_map] at this; rw [List.length_reverse]; omega) fun H9 n9 m9t => ?_
            refine ⟨((r ++ (kids t').reverse).map szI).sum, ?_, B7, fx, us ++ xs7.reverse, fs, r ++ (kids t').reverse, _, rfl, rfl, ((n36.tr n7).tr n8).loc n9 (by simp [ht0]), ((m6f.up n7).up n8).up n9 (by simp [hne]), m9t, Dps.up n7.b d3f, ?_, ?_, ?_, ?_⟩
            · rw [List.map_append, List.sum_append, List.map_append, List.sum_append, List.map_reverse, List.sum_reverse, hz']
              omega
            · rw [List.map_append, List.map_reverse]
              exact Dps.app (Dps.up n7.b hus) (Dps.rev d7)
            · intro i hi
              rcases List.mem_append.mp hi with h | h
              · exact w3 i (by simp [h])
              · exact kids_W wI i (List.mem_reverse.mp h)
            · rw [List.reverse_append, List.reverse_reverse, List.flatMap_append, ← post_kids hc]
              exact e3
            · rw [List.map_append, List.sum_append, List.map_reverse, List.sum_reverse]
              omega
    · rintro σ H' ⟨B', fx, y, rfl, n, m, d⟩
      walk_at "sx"
      exact k B' H' Lf fx n hf0 m d
end
end C
namespace C
open PySem L2 G
section
variable {P : Program} {w : World} {K : PySem.W.Frag} {mg : Str → Option Value} {base : Heap}
def toV : PyData → V
  | .int i => .int i
  | .bool b => .bl b
  | .str s => .str s
  | _ => .non
/-- what a work is asked of -/
def Typed (w : Str) (x y : PyData) : Prop := (∃ i j : Int, x = .int i ∧ y = .int j ∧ w ∈ (["plus", "less", "times", "min", "max", "same", "below"] : List Str) ∧ i.natAbs < 2 ^ 400000 ∧ j.natAbs < 2 ^ 400000) ∨ (∃ p q, x = .bool p ∧ y = .bool q ∧ w ∈ (["and", "or"] : List Str))
def spW (w : Str) : Sp := fun vs H Q _ => ∃ x y : PyData, vs = [toV x, toV y] ∧ Typed w x y ∧ Q (toV (op2 w x y)) H
theorem ok_do_plus (T : Txt w K mg) : Has P w K mg base "do_plus" s_do_plus 1 ["one", "other"] (spW "plus") := by
  refine has_mk T.d_do_plus sc_do_plus (fun _ _ _ _ _ _ us hl => match us, hl with | [_, _], _ => rfl) (fun vs H Q E h => ?_) (fun f cdv A outer s H vs Q E hr h => ?_)
  · obtain ⟨_, _, rfl, _⟩ := h
    rfl
  · obtain ⟨x, y, rfl, ty, k⟩ := h
    rcases ty with ⟨i, j, rfl, rfl, _, hi, hj⟩ | ⟨p, q, rfl, rfl, h⟩
    · refine ⟨_, (pss_one (ps_ret (pe_op op_add (pv 0) (pv 1)))), ?_⟩
      simp only [toV]
      walk_at "go"
      exact k
    · exact absurd h (by decide +kernel)
theorem ok_do_less (T : Txt w K mg) : Has P w K mg base "do_less" s_do_less 1 ["one", "other"] (spW "less") := by
  refine has_mk T.d_do_less sc_do_less (fun _ _ _ _ _ _ us hl => match us, hl with | [_, _], _ => rfl) (fun vs H Q E h => ?_) (fun f cdv A outer s H vs Q E hr h => ?_)
  · obtain ⟨_, _, rfl, _⟩ := h
    rfl
  · obtain ⟨x, y, rfl, ty, k⟩ := h
    rcases ty with ⟨i, j, rfl, rfl, _, hi, hj⟩ | ⟨p, q, rfl, rfl, h⟩
    · refine ⟨_, (pss_one (ps_ret (pe_op op_sub (pv 0) (pv 1)))), ?_⟩
      simp only [toV]
      walk_at "go"
      exact k
    · exact absurd h (by decide +kernel)
theorem ok_do_times (T : Txt w K mg) : Has P w K mg base "do_times" s_do_times 1 ["one", "other"] (spW "times") := by
  refine has_mk T.d_do_times sc_do_times (fun _ _ _ _ _ _ us hl => match us, hl with | [_, _], _ => rfl) (fun vs H Q E h => ?_) (fun f cdv A outer s H vs Q E hr h => ?_)
  · obtain ⟨_, _, rfl, _⟩ := h
    rfl
  · obtain ⟨x, y, rfl, ty, k⟩ := h
    rcases ty with ⟨i, j, rfl, rfl, _, hi, hj⟩ | ⟨p, q, rfl, rfl, h⟩
    · refine ⟨_, (pss_one (ps_ret (pe_op op_mulW (pv 0) (pv 1)))), ?_⟩
      simp only [toV]
      walk_at "go"
      refine sx_mulW hi hj (by decide) (by decide) (by decide) ?_
      exact k
    · exact absurd h (by decide +kernel)
theorem ok_do_min (T : Txt w K mg) : Has P w K mg base "do_min" s_do_min 1 ["one", "other"] (spW "min") := by
  refine has_mk T.d_do_min sc_do_min (fun _ _ _ _ _ _ us hl => match us, hl with | [_, _], _ => rfl) (fun vs H Q E h => ?_) (fun f cdv A outer s H vs Q E hr h => ?_)
  · obtain ⟨_, _, rfl, _⟩ := h
    rfl
  · obtain ⟨x, y, rfl, ty, k⟩ := h
    rcases ty with ⟨i, j, rfl, rfl, _, hi, hj⟩ | ⟨p, q, rfl, rfl, h⟩
    · refine ⟨_, (pss_one (ps_ret (pe_callB (cl_min rfl) (by rfl) T.b_min (by decide +kernel) (pa_cons (pv 0) (pa_cons (pv 1) pa_nil))))), ?_⟩
      simp only [toV]
      walk_at "go"
      exact k
    · exact absurd h (by decide +kernel)
theorem ok_do_max (T : Txt w K mg) : Has P w K mg base "do_max" s_do_max 1 ["one", "other"] (spW "max") := by
  refine has_mk T.d_do_max sc_do_max (fun _ _ _ _ _ _ us hl => match us, hl with | [_, _], _ => rfl) (fun vs H Q E h => ?_) (fun f cdv A outer s H vs Q E hr h => ?_)
  · obtain ⟨_, _, rfl, _⟩ := h
    rfl
  · obtain ⟨x, y, rfl, ty, k⟩ := h
    rcases ty with ⟨i, j, rfl, rfl, _, hi, hj⟩ | ⟨p, q, rfl, rfl, h⟩
    · refine ⟨_, (pss_one (ps_ret (pe_callB (cl_max rfl) (by rfl) T.b_max (by decide +kernel) (pa_cons (pv 0) (pa_cons (pv 1) pa_nil))))), ?_⟩
      simp only [toV]
      walk_at "go"
      exact k
    · exact absurd h (by decide +kernel)
theorem ok_do_same (T : Txt w K mg) : Has P w K mg base "do_same" s_do_same 1 ["one", "other"] (spW "same") := by
  refine has_mk T.d_do_same sc_do_same (fun _ _ _ _ _ _ us hl => match us, hl with | [_, _], _ => rfl) (fun vs H Q E h => ?_) (fun f cdv A outer s H vs Q E hr h => ?_)
  · obtain ⟨_, _, rfl, _⟩ := h
    rfl
  · obtain ⟨x, y, rfl, ty, k⟩ := h
    rcases ty with ⟨i, j, rfl, rfl, _, hi, hj⟩ | ⟨p, q, rfl, rfl, h⟩
    · refine ⟨_, (pss_one (ps_ret (pe_cmpR op_eq (pv 0) (pv 1) (nomark _)))), ?_⟩
      simp only [toV]
      walk_at "go"
      rw [show (decide (V.int i = V.int j)) = decide (i = j) from by rw [decide_eq_decide]; exact ⟨fun h => V.int.inj h, fun h => by rw [h]⟩]
      exact k
    · exact absurd h (by decide +kernel)
theorem ok_do_below (T : Txt w K mg) : Has P w K mg base "do_below" s_do_below 1 ["one", "other"] (spW "below") := by
  refine has_mk T.d_do_below sc_do_below (fun _ _ _ _ _ _ us hl => match us, hl with | [_, _], _ => rfl) (fun vs H Q E h => ?_) (fun f cdv A outer s H vs Q E hr h => ?_)
  · obtain ⟨_, _, rfl, _⟩ := h
    rfl
  · obtain ⟨x, y, rfl, ty, k⟩ := h
    rcases ty with ⟨i, j, rfl, rfl, _, hi, hj⟩ | ⟨p, q, rfl, rfl, h⟩
    · refine ⟨_, (pss_one (ps_ret (pe_cmpR op_lt (pv 0) (pv 1) (nomark _)))), ?_⟩
      simp only [toV]
      walk_at "go"
      exact k
    · exact absurd h (by decide +kernel)
theorem ok_do_and (T : Txt w K mg) : Has P w K mg base "do_and" s_do_and 1 ["one", "other"] (spW "and") := by
  refine has_mk T.d_do_and sc_do_and (fun _ _ _ _ _ _ us hl => match us, hl with | [_, _], _ => rfl) (fun vs H Q E h => ?_) (fun f cdv A outer s H vs Q E hr h => ?_)
  · obtain ⟨_, _, rfl, _⟩ := h
    rfl
  · obtain ⟨x, y, rfl, ty, k⟩ := h
    rcases ty with ⟨i, j, rfl, rfl, h, hi, hj⟩ | ⟨p, q, rfl, rfl, h⟩
    · exact absurd h (by decide +kernel)
    · refine ⟨_, (pss_one (ps_ret (pe_and (pv 0) (pe_one (pv 1))))), ?_⟩
      simp only [toV]
      walk_at "go"
      cases p with
      | true =>
        refine ifT rfl ?_
        walk_at "sx"
        exact k
      | false =>
        refine ifF rfl ?_
        walk_at "sx"
        exact k
theorem ok_do_or (T : Txt w K mg) : Has P w K mg base "do_or" s_do_or 1 ["one", "other"] (spW "or") := by
  refine has_mk T.d_do_or sc_do_or (fun _ _ _ _ _ _ us hl => match us, hl with | [_, _], _ => rfl) (fun vs H Q E h => ?_) (fun f cdv A outer s H vs Q E hr h => ?_)
  · obtain ⟨_, _, rfl, _⟩ := h
    rfl
  · obtain ⟨x, y, rfl, ty, k⟩ := h
    rcases ty with ⟨i, j, rfl, rfl, h, hi, hj⟩ | ⟨p, q, rfl, rfl, h⟩
    · exact absurd h (by decide +kernel)
    · refine ⟨_, (pss_one (ps_ret (pe_or (pv 0) (pe_one (pv 1))))), ?_⟩
      simp only [toV]
      walk_at "go"
      cases p with
      | true =>
        refine ifT rfl ?_
        walk_at "sx"
        exact k
      | false =>
        refine ifF rfl ?_
        walk_at "sx"
        exact k
end
end C
namespace C
open PySem L2 G
section
variable {P : Program} {w : World} {K : PySem.W.Frag} {mg : Str → Option Value} {base : Heap}
/-- what a step makes of the things made so far -/
inductive StepOk : Str → Int → List PyData → List PyData → Prop
  | neg (n : Int) (r : List PyData) (b : Bool) : StepOk "not" n (r ++ [.bool b]) (r ++ [.bool !b])
  | div (n : Int) (r : List PyData) (i : Int) (h0 : 0 < n) (h1 : n < 1073741824) : StepOk "div" n (r ++ [.int i]) (r ++ [.int (i / n)])
  | rest (n : Int) (r : List PyData) (i : Int) (h0 : 0 < n) : StepOk "rest" n (r ++ [.int i]) (r ++ [.int (i % n)])
  | bin (w : Str) (n : Int) (r : List PyData) (x y : PyData) (h : Typed w x y) : StepOk w n (r ++ [x, y]) (r ++ [op2 w x y])
def spDoStep : Sp := fun vs H Q _ => ∃ (B : Hp) (L : Addr) (w : Str) (n : Int) (st st' : List PyData), vs = [.ref L, .str w, .int n] ∧ Ex B H ∧ Mu B H L (st.map toV) ∧ StepOk w n st st' ∧ st.length ≤ 50000 ∧
  ∀ H', Nx [L] B H B H' → Mu B H' L (st'.map toV) → Q .non H'
theorem typed_word {w : Str} {x y : PyData} (h : Typed w x y) : w ∈ (["plus", "less", "times", "min", "max", "same", "below", "and", "or"] : List Str) := by
  rcases h with ⟨i, j, _, _, h, _⟩ | ⟨p, q, _, _, h⟩
  · simp only [List.mem_cons, List.not_mem_nil, or_false] at h ⊢
    rcases h with h | h | h | h | h | h | h <;> simp [h]
  · simp only [List.mem_cons, List.not_mem_nil, or_false] at h ⊢
    rcases h with h | h <;> simp [h]
theorem key_step : ∀ w ∈ (["plus", "less", "times", "min", "max", "same", "below", "and", "or"] : List Str), w ≠ "not" ∧ w ≠ "div" ∧ w ≠ "rest" := by decide +kernel
theorem held_of {P : Program} {w : World} {K : PySem.W.Frag} {mg : Str → Option Value} {base : Heap} (T : Txt w K mg) {z : Str} (hz : z ∈ (["plus", "less", "times", "min", "max", "same", "below", "and", "or"] : List Str)) {a : Addr} (ha : ∀ q ∈ ([("plus", "do_plus"), ("less", "do_less"), ("times", "do_times"), ("min", "do_min"), ("max", "do_max"), ("same", "do_same"), ("below", "do_below"), ("and", "do_and"), ("or", "do_or")] : List (Str × Str)), KFn K w mg a q.1 q.2) :
    ∃ f, KDct K w a z (.ref f) ∧ Held P w K mg base 1 f (spW z) := by
  simp only [List.mem_cons, List.not_mem_nil, or_false] at hz
  rcases hz with rfl | rfl | rfl | rfl | rfl | rfl | rfl | rfl | rfl
  · obtain ⟨f, m, d⟩ := ha ("plus", "do_plus") (by simp)
    exact ⟨f, d, (ok_do_plus T).held m⟩
  · obtain ⟨f, m, d⟩ := ha ("less", "do_less") (by simp)
    exact ⟨f, d, (ok_do_less T).held m⟩
  · obtain ⟨f, m, d⟩ := ha ("times", "do_times") (by simp)
    exact ⟨f, d, (ok_do_times T).held m⟩
  · obtain ⟨f, m, d⟩ := ha ("min", "do_min") (by simp)
    exact ⟨f, d, (ok_do_min T).held m⟩
  · obtain ⟨f, m, d⟩ := ha ("max", "do_max") (by simp)
    exact ⟨f, d, (ok_do_max T).held m⟩
  · obtain ⟨f, m, d⟩ := ha ("same", "do_same") (by simp)
    exact ⟨f, d, (ok_do_same T).held m⟩
  · obtain ⟨f, m, d⟩ := ha ("below", "do_below") (by simp)
    exact ⟨f, d, (ok_do_below T).held m⟩
  · obtain ⟨f, m, d⟩ := ha ("and", "do_and") (by simp)
    exact ⟨f, d, (ok_do_and T).held m⟩
  · obtain ⟨f, m, d⟩ := ha ("or", "do_or") (by simp)
    exact ⟨f, d, (ok_do_or T).held m⟩
theorem ok_do_step (T : Txt w K mg) : Has P w K mg base "do_step" s_do_step 2 ["found", "word", "number"] spDoStep := by
  refine has_mk T.d_do_step sc_do_step (fun _ _ _ _ _ _ us hl => match us, hl with | [_, _, _], _ => rfl) (fun vs H Q E h => ?_) (fun f cdv A outer s H vs Q E hr h => ?_)
  · obtain ⟨_, _, _, _, _, _, rfl, _⟩ := h
    rfl
  · obtain ⟨B, L, wd, n, st, st', rfl, e, m, ok, hz, k⟩ := h
    refine ⟨_, (pss_cons (ps_set (i := 3) sc_do_step.nd rfl (.inl rfl) (pe_bm0 PySem.F.plainAttrs_list PySem.F.slot_list_pop PySem.F.type_list_pop mt_pop (pv 0)))
      (pss_one (ps_if (pt_cmpR op_eq (pv 1) (pe_gS (by rfl) T.g_NOT) (nomark _))
      (pss_one (ps_expr (pe_bm PySem.F.plainAttrs_list PySem.F.slot_list_append PySem.F.type_list_append mt_append (pv 0) (pa_cons (pe_not (pv 3)) pa_nil))))
      (pss_one (ps_if (pt_cmpR op_eq (pv 1) pe_str (nomark _))
      (pss_one (ps_expr (pe_bm PySem.F.plainAttrs_list PySem.F.slot_list_append PySem.F.type_list_append mt_append (pv 0) (pa_cons (pe_op op_fdiv (pv 3) (pv 2)) pa_nil))))
      (pss_one (ps_if (pt_cmpR op_eq (pv 1) pe_str (nomark _))
      (pss_one (ps_expr (pe_bm PySem.F.plainAttrs_list PySem.F.slot_list_append PySem.F.type_list_append mt_append (pv 0) (pa_cons (pe_op op_mod (pv 3) (pv 2)) pa_nil))))
      (pss_cons (ps_set (i := 4) sc_do_step.nd rfl (.inl rfl) (pe_ix ix_kdict (pe_gD (by rfl) T.g_WORKS) (pv 1) (fun _ _ => rfl)))
      (pss_one (ps_expr (pe_bm PySem.F.plainAttrs_list PySem.F.slot_list_append PySem.F.type_list_append mt_append (pv 0) (pa_cons (pe_callV (k := 1) (i := 4) hr (by decide) rfl (.inl rfl) (pa_cons (pe_bm0 PySem.F.plainAttrs_list PySem.F.slot_list_pop PySem.F.type_list_pop mt_pop (pv 0)) (pa_cons (pv 3) pa_nil))) pa_nil)))))))))))), ?_⟩
    walk_at "go"
    have tr : ∀ {H1 H2 : Hp} {xs : List V}, Nx [L] B H B H1 → Mu B H1 L xs → Nx [L] B H1 B H2 → Nx [L] B H B H2 := fun n1 m1 n2 => n1.trans n2 fun b hb _ => by
      rw [List.mem_singleton] at hb
      subst hb
      rw [m1.h]
      exact fun z => nomatch z
    cases ok with
    | neg _ r b =>
      simp only [List.map_append, List.map_cons, List.map_nil, toV] at m
      refine sx_pop m e fun H1 n1 m1 => ?_
      walk_at "sx"
      refine ifT (str_eqT rfl) ?_
      walk_at "sx"
      refine sx_append m1 n1.h (by simp at hz ⊢; omega) fun H2 n2 m2 => ?_
      exact k H2 (tr n1 m1 n2) (by simp only [List.map_append, List.map_cons, List.map_nil, toV]; exact m2)
    | div _ r i h0 h1 =>
      simp only [List.map_append, List.map_cons, List.map_nil, toV] at m
      refine sx_pop m e fun H1 n1 m1 => ?_
      walk_at "sx"
      refine ifF (str_eqF (by decide +kernel)) ?_
      walk_at "sx"
      refine ifT (str_eqT rfl) ?_
      walk_at "sx"
      refine sx_append m1 n1.h (by simp at hz ⊢; omega) fun H2 n2 m2 => ?_
      exact k H2 (tr n1 m1 n2) (by simp only [List.map_append, List.map_cons, List.map_nil, toV]; exact m2)
    | rest _ r i h0 =>
      simp only [List.map_append, List.map_cons, List.map_nil, toV] at m
      refine sx_pop m e fun H1 n1 m1 => ?_
      walk_at "sx"
      refine ifF (str_eqF (by decide +kernel)) ?_
      walk_at "sx"
      refine ifF (str_eqF (by decide +kernel)) ?_
      walk_at "sx"
      refine ifT (str_eqT rfl) ?_
      walk_at "sx"
      refine sx_append m1 n1.h (by simp at hz ⊢; omega) fun H2 n2 m2 => ?_
      exact k H2 (tr n1 m1 n2) (by simp only [List.map_append, List.map_cons, List.map_nil, toV]; exact m2)
    | bin _ _ r x y ty =>
      have hw := typed_word ty
      obtain ⟨w1, w2, w3⟩ := key_step _ hw
      simp only [List.map_append, List.map_cons, List.map_nil] at m
      rw [show r.map toV ++ [toV x, toV y] = (r.map toV ++ [toV x]) ++ [toV y] by simp] at m
      refine sx_pop m e fun H1 n1 m1 => ?_
      walk_at "sx"
      refine ifF (str_eqF w1) ?_
      walk_at "sx"
      refine ifF (str_eqF w2) ?_
      walk_at "sx"
      refine ifF (str_eqF w3) ?_
      walk_at "sx"
      intro a ha
      obtain ⟨f', kd, hd⟩ := held_of (P := P) (base := base) T hw ha
      walk_at "sx"
      refine sx_ixKD kd ?_
      walk_at "sx"
      refine sx_callV rfl hd ?_
      walk_at "sx"
      refine sx_pop m1 n1.h fun H2 n2 m2 => ?_
      walk_at "sx"
      refine ⟨x, y, rfl, ty, ?_⟩
      walk_at "sx"
      refine sx_append m2 n2.h (by simp at hz ⊢; omega) fun H3 n3 m3 => ?_
      exact k H3 (tr (tr n1 m1 n2) m2 n3) (by simp only [List.map_append, List.map_cons, List.map_nil]; exact m3)
end
end C
namespace C
open PySem L2 G
section
variable {P : Program} {w : World} {K : PySem.W.Frag} {mg : Str → Option Value} {base : Heap}
inductive One (env : Str → Int) (F : List Str) : PyData → List PyData → List PyData → Prop
  | num (i : Int) (st : List PyData) : One env F (Tm.d (.num i)) st (st ++ [.int i])
  | fld (z : Str) (h : z ∈ F) (st : List PyData) : One env F (Tm.d (.fld z)) st (st ++ [.int (env z)])
  | stp (w : Str) (n : Int) (st st' : List PyData) (h : StepOk w n st st') : One env F (stp w n) st st'
inductive Runs (env : Str → Int) (F : List Str) : List PyData → List PyData → List PyData → Prop
  | nil (st : List PyData) : Runs env F [] st st
  | cons {s : PyData} {r st st' st'' : List PyData} (h : One env F s st st') (t : Runs env F r st' st'') : Runs env F (s :: r) st st''
theorem Runs.app {env : Str → Int} {F : List Str} {a b st st' st'' : List PyData} (h : Runs env F a st st') (k : Runs env F b st' st'') : Runs env F (a ++ b) st st'' := by
  induction h with
  | nil st => exact k
  | cons h t ih => exact .cons h (ih k)
theorem One.len {env : Str → Int} {F : List Str} {s : PyData} {st st' : List PyData} (h : One env F s st st') : st'.length ≤ st.length + 1 := by
  cases h with
  | num i st => simp
  | fld z h st => simp
  | stp w n st st' h => cases h <;> simp
theorem runs_post {env : Str → Int} {F : List Str} : ∀ {t : Tm} {c : Bool}, t.Ok c → (∀ s ∈ t.flds, s ∈ F) → (∀ s ∈ F, (env s).natAbs < 2 ^ 20) → t.lv ≤ 20000 → ∀ st, Runs env F (post t) st (st ++ [t.ev env])
  | .num i, c, h, _, _, _, st => .cons (.num i st) (.nil _)
  | .fld s, c, h, hf, _, _, st => .cons (.fld s (hf s (by simp [Tm.flds])) st) (.nil _)
  | .bin w a b, c, h, hf, hb, hl, st => by
    have hfa : ∀ s ∈ a.flds, s ∈ F := fun s hs => hf s (by simp [Tm.flds, hs])
    have hfb : ∀ s ∈ b.flds, s ∈ F := fun s hs => hf s (by simp [Tm.flds, hs])
    have la := a.lv_pos
    have lb := b.lv_pos
    have hl' : a.lv + b.lv ≤ 20000 := hl
    have go : ∀ c, a.Ok c → b.Ok c → Typed w (a.ev env) (b.ev env) → Runs env F (post (.bin w a b)) st (st ++ [(Tm.bin w a b).ev env]) := by
      intro c ha hb' ty
      have r1 := runs_post ha hfa hb (by omega) st
      have r2 := runs_post hb' hfb hb (by omega) (st ++ [a.ev env])
      refine (r1.app r2).app (.cons (.stp w 0 _ _ ?_) (.nil _))
      rw [List.append_assoc]
      exact .bin w 0 st _ _ ty
    rcases h with ⟨rfl, hw, ha, hb'⟩ | ⟨rfl, hw, ha, hb'⟩ | ⟨rfl, hw, ha, hb'⟩
    · obtain ⟨i, ei, hi⟩ := Tm.ev_ok ha (fun s hs => hb s (hfa s hs))
      obtain ⟨j, ej, hj⟩ := Tm.ev_ok hb' (fun s hs => hb s (hfb s hs))
      refine go false ha hb' (.inl ⟨i, j, ei, ej, ?_, Nat.lt_of_lt_of_le hi (pow_mono (by omega)), Nat.lt_of_lt_of_le hj (pow_mono (by omega))⟩)
      simp only [List.mem_cons, List.not_mem_nil, or_false] at hw ⊢
      rcases hw with h | h | h | h | h <;> simp [h]
    · obtain ⟨i, ei, hi⟩ := Tm.ev_ok ha (fun s hs => hb s (hfa s hs))
      obtain ⟨j, ej, hj⟩ := Tm.ev_ok hb' (fun s hs => hb s (hfb s hs))
      refine go false ha hb' (.inl ⟨i, j, ei, ej, ?_, Nat.lt_of_lt_of_le hi (pow_mono (by omega)), Nat.lt_of_lt_of_le hj (pow_mono (by omega))⟩)
      simp only [List.mem_cons, List.not_mem_nil, or_false] at hw ⊢
      rcases hw with h | h <;> simp [h]
    · obtain ⟨p, ep⟩ := Tm.ev_ok ha (fun s hs => hb s (hfa s hs))
      obtain ⟨q, eq⟩ := Tm.ev_ok hb' (fun s hs => hb s (hfb s hs))
      exact go true ha hb' (.inr ⟨p, q, ep, eq, hw⟩)
  | .cut w a n, c, h, hf, hb, hl, st => by
    obtain ⟨rfl, hw, n0, n1, ha⟩ := h
    have r1 := runs_post ha hf hb hl st
    obtain ⟨i, ei, hi⟩ := Tm.ev_ok ha (fun s hs => hb s (hf s hs))
    refine r1.app (.cons (.stp w n _ _ ?_) (.nil _))
    show StepOk w n (st ++ [a.ev env]) (st ++ [op1 w n (a.ev env)])
    rw [ei]
    simp only [List.mem_cons, List.not_mem_nil, or_false] at hw
    rcases hw with rfl | rfl
    · simp only [op1, if_true]
      exact .div n st i n0 (by omega)
    · simp only [op1]
      rw [if_neg (by decide +kernel)]
      exact .rest n st i n0
  | .neg a, c, h, hf, hb, hl, st => by
    obtain ⟨rfl, ha⟩ := h
    have r1 := runs_post ha hf hb hl st
    obtain ⟨p, ep⟩ := Tm.ev_ok ha (fun s hs => hb s (hf s hs))
    refine r1.app (.cons (.stp "not" 0 _ _ ?_) (.nil _))
    show StepOk "not" 0 (st ++ [a.ev env]) (st ++ [opN (a.ev env)])
    rw [ep]
    exact .neg 0 st p
/-- worths as a tuple of pairs whose object is known -/
structure Wor (K : PySem.W.Frag) (B : Hp) (a : Addr) (F : List Str) (env : Str → Int) : Prop where
  ex : ∃ (o : Obj) (ps : List Addr) (kvs : List (Key × V)), B a = some (.frz o (.tup (ps.map V.ref))) ∧ TupO o ∧ Paired (fun p kv => SqT K B p [kV kv.1, kv.2]) ps kvs ∧ ∀ s ∈ F, valV (mergeK [] kvs) (.inr s) = some (.int (env s))
  bd : ∀ s ∈ F, (env s).natAbs < 2 ^ 20
theorem Wor.up {K : PySem.W.Frag} {B B' : Hp} {a : Addr} {F : List Str} {env : Str → Int} (h : Wor K B a F env) (e : Ex B B') : Wor K B' a F env := by
  obtain ⟨⟨o, ps, kvs, h1, h2, h3, h4⟩, b⟩ := h
  exact ⟨⟨o, ps, kvs, e _ _ h1, h2, Paired.mapP h3 fun _ _ z => e.t z, h4⟩, b⟩
/-- reckoned, worth, holds -/
def spReck (K : PySem.W.Frag) : Sp := fun vs H Q _ => ∃ (B : Hp) (x : V) (a : Addr) (t : Tm) (c : Bool) (F : List Str) (env : Str → Int), vs = [x, .ref a] ∧ Ex B H ∧ Dp K B x t.d ∧ t.Ok c ∧ t.size ≤ 20000 ∧ t.lv ≤ 20000 ∧ (∀ s ∈ t.flds, s ∈ F) ∧ Wor K B a F env ∧
  ∀ B' H', Nx [] B H B' H' → Q (toV (t.ev env)) H'
theorem ok_reckoned (T : Txt w K mg) : Has P w K mg base "reckoned" s_reckoned 3 ["thing", "worths"] (spReck K) := by
  refine has_mk T.d_reckoned sc_reckoned (fun _ _ _ _ _ _ us hl => match us, hl with | [_, _], _ => rfl) (fun vs H Q E h => ?_) (fun f cdv A outer s H vs Q E hr h => ?_)
  · obtain ⟨_, _, _, _, _, _, _, rfl, _⟩ := h
    rfl
  · obtain ⟨B, x, a, t, c, F, env, rfl, e, hx, hok, hsz, hlv, hF, ⟨⟨o, ps, kvs, b1, b2, b3, b4⟩, hbd⟩, k⟩ := h
    refine ⟨_, (pss_cons (ps_par (i := 2) (j := 3) (by rfl) sc_reckoned.nd rfl rfl (by decide) rfl rfl (pa_cons (pe_callTy (cl_dictT rfl) (by rfl) T.b_dict (by decide +kernel) (pa_cons (pv 1) pa_nil)) (pa_cons (pe_lst pa_nil) pa_nil)) (by rfl))
      (pss_cons (ps_for PassesOwn.never rfl (pi_list (pe_callH (ok_steps_of T) hr (by rfl) (pa_cons (pv 0) pa_nil))) (pg_name (i := 4) sc_reckoned.nd rfl (.inl rfl))
      (pss_one (ps_if (pt_cmpR op_eq (pe_ix ix_tup (pv 4) pe_int (fun _ _ => rfl)) (pe_gS (by rfl) T.g_NUMBER) (nomark _))
      (pss_one (ps_expr (pe_bm PySem.F.plainAttrs_list PySem.F.slot_list_append PySem.F.type_list_append mt_append (pv 3) (pa_cons (pe_ix ix_tup (pv 4) pe_int (fun _ _ => rfl)) pa_nil))))
      (pss_one (ps_if (pt_cmpR op_eq (pe_ix ix_tup (pv 4) pe_int (fun _ _ => rfl)) (pe_gS (by rfl) T.g_FIELD) (nomark _))
      (pss_one (ps_expr (pe_bm PySem.F.plainAttrs_list PySem.F.slot_list_append PySem.F.type_list_append mt_append (pv 3) (pa_cons (pe_dget (hu_of hr) (pv 2) (pe_ix ix_tup (pv 4) pe_int (fun _ _ => rfl)) (fun _ _ => rfl)) pa_nil))))
      (pss_one (ps_expr (pe_callH (ok_do_step T) hr (by rfl) (pa_cons (pv 3) (pa_cons (pe_ix ix_tup (pv 4) pe_int (fun _ _ => rfl)) (pa_cons (pe_ix ix_tup (pv 4) pe_int (fun _ _ => rfl)) pa_nil)))))))))))
      (pss_one (ps_ret (pe_ix ix_list (pv 3) pe_int (fun _ _ => rfl)))))), ?_⟩
    walk_at "go"
    refine sx_dictT e b1 b2 b3 fun pd B1 H1 hpd n1 dd => ?_
    walk_at "sx"
    refine sx_newM n1.h (by simp) fun L H2 hL n2 m2 => ?_
    walk_at "sx"
    have hL0 : H L = none := n1.ex.free hL
    have n12 := n1.tr n2
    refine ⟨B1, x, t, rfl, n2.h, Dp.up n1.b hx, hok.wd, hsz, fun B3 H3 p xs n3 hp m3 d3 => ?_⟩
    walk_at "st"
    have n13 := n12.tr n3
    have ll := Dps.len d3
    have lp := post_len t
    have key := runs_post (env := env) (F := F) hok hF hbd hlv []
    refine sx_forL_by m3.sq (fun i σ H' => ∃ (B' : Hp) (st : List PyData) (y : Option V), σ = [some x, some (.ref a), some (.ref pd), some (.ref L), y] ∧ Nx [] B H B' H' ∧ Ex B3 B' ∧ Mu B' H' L (st.map toV) ∧ Mu B' H' p xs ∧ Runs env F ((post t).drop i) st [t.ev env] ∧ st.length ≤ i) ⟨B3, [], _, rfl, n13, Ex.refl _, m2.up n3, m3, key, Nat.le_refl _⟩ (fun i σ H' _ q => by obtain ⟨B', st, y, _, _, _, _, m, _⟩ := q; exact m.sq) (fun i z σ H4 hz q => ?_) (fun σ H' q => ?_)
    · obtain ⟨B4, st, y, rfl, n4, e4, m4, mp4, r4, l4⟩ := q
      obtain ⟨d, hd1, hd2⟩ := Dps.got d3 hz
      have hi := (List.getElem?_eq_some_iff.mp hd1).1
      have hdrop : (post t).drop i = d :: (post t).drop (i + 1) := by
        rw [List.drop_eq_getElem_cons hi, (List.getElem?_eq_some_iff.mp hd1).2]
      rw [hdrop] at r4
      cases r4 with
      | cons h1 t1 =>
        have l5 := h1.len
        have hpL : p ≠ L := fun z => by
          rw [z, m2.h] at hp
          cases hp
        have hd4 := Dp.up e4 hd2
        have hLB := m4
        walk_at "sx"
        cases h1 with
        | num i' =>
          refine sx_ixTd hd4 n4.h at0 fun v hv => ?_
          cases Dp.str_v hv
          walk_at "sx"
          refine ifT (str_eqT rfl) ?_
          walk_at "sx"
          refine sx_ixTd hd4 n4.h at1 fun v hv => ?_
          cases Dp.int_v hv
          walk_at "sx"
          refine sx_append m4 n4.h (by simp; omega) fun H5 n5 m5 => ?_
          exact ⟨B4, _, _, rfl, n4.loc n5 (by simp [hL0]), e4, by rw [List.map_append]; exact m5, mp4.up n5 (by simp [hpL]), t1, by omega⟩
        | fld z hz' =>
          refine sx_ixTd hd4 n4.h at0 fun v hv => ?_
          cases Dp.str_v hv
          walk_at "sx"
          refine ifF (str_eqF (by decide +kernel)) ?_
          walk_at "sx"
          refine sx_ixTd hd4 n4.h at0 fun v hv => ?_
          cases Dp.str_v hv
          walk_at "sx"
          refine ifT (str_eqT rfl) ?_
          walk_at "sx"
          refine sx_ixTd hd4 n4.h at1 fun v hv => ?_
          cases Dp.str_v hv
          walk_at "sx"
          refine sx_dgetS n4.h ((n3.b.trans e4) _ _ dd) (b4 z hz') ?_
          walk_at "sx"
          refine sx_append m4 n4.h (by simp; omega) fun H5 n5 m5 => ?_
          exact ⟨B4, _, _, rfl, n4.loc n5 (by simp [hL0]), e4, by rw [List.map_append]; exact m5, mp4.up n5 (by simp [hpL]), t1, by omega⟩
        | stp wd n _ st' h =>
          refine sx_ixTd hd4 n4.h at0 fun v hv => ?_
          cases Dp.str_v hv
          walk_at "sx"
          refine ifF (str_eqF (by decide +kernel)) ?_
          walk_at "sx"
          refine sx_ixTd hd4 n4.h at0 fun v hv => ?_
          cases Dp.str_v hv
          walk_at "sx"
          refine ifF (str_eqF (by decide +kernel)) ?_
          walk_at "sx"
          refine sx_ixTd hd4 n4.h at1 fun v hv => ?_
          cases Dp.str_v hv
          walk_at "sx"
          refine sx_ixTd hd4 n4.h at2 fun v hv => ?_
          cases Dp.int_v hv
          walk_at "sx"
          refine ⟨B4, L, wd, n, st, _, rfl, n4.h, m4, h, by omega, fun H5 n5 m5 => ?_⟩
          exact ⟨B4, _, _, rfl, n4.loc n5 (by simp [hL0]), e4, m5, mp4.up n5 (by simp [hpL]), t1, by omega⟩
    · obtain ⟨B4, st, y, rfl, n4, e4, m4, mp4, r4, l4⟩ := q
      rw [ll, List.drop_length] at r4
      cases r4
      walk_at "sx"
      exact k B4 H' n4
end
end C
namespace C
open PySem L2 G
section
variable {P : Program} {w : World} {K : PySem.W.Frag} {mg : Str → Option Value} {base : Heap}
/-- what is drawn: a tree over some fields -/
structure Drawn (ns : List Str) (t : Tm) : Prop where
  ok : t.Ok false
  fl : ∀ s ∈ t.flds, s ∈ ns
def spLeaf (K : PySem.W.Frag) : Sp := fun vs H Q _ => ∃ (B : Hp) (d l a : Addr) (ns : List Str), vs = [.ref d, .ref a] ∧ Ex B H ∧ Deal B H d l ∧ SqL K H a (ns.map V.str) ∧ a ≠ d ∧ a ≠ l ∧ 0 < ns.length ∧ ns.length < 100 ∧
  ∀ B' H' v t, Nx [d, l] B H B' H' → Deal B' H' d l → Dp K B' v t.d → Drawn ns t → t.lv = 1 → t.size = 1 → Q v H'
theorem ok_law_leaf (T : Txt w K mg) : Has P w K mg base "_law_leaf" s_law_leaf 3 ["deal", "names"] (spLeaf K) := by
  refine has_mk T.d_law_leaf sc_law_leaf (fun _ _ _ _ _ _ us hl => match us, hl with | [_, _], _ => rfl) (fun vs H Q E h => ?_) (fun f cdv A outer s H vs Q E hr h => ?_)
  · obtain ⟨_, _, _, _, _, rfl, _⟩ := h
    rfl
  · obtain ⟨B, d, l, a, ns, rfl, e, hD, hS, ad, al, x0, x1, k⟩ := h
    refine ⟨_, (pss_cons (ps_if (pt_cmpR op_eq (pe_callH (ok_law_any T) hr (by rfl) (pa_cons (pv 0) (pa_cons pe_int pa_nil))) pe_int (nomark _))
      (pss_one (ps_ret (pe_tup (pa_cons pe_str (pa_cons (pe_callH (ok_law_of T) hr (by rfl) (pa_cons (pv 0) (pa_cons (pe_lst (pa_cons pe_int (pa_cons pe_int (pa_cons pe_int (pa_cons pe_int (pa_cons pe_int (pa_cons (pe_op op_sub pe_int pe_int) (pa_cons (pe_op op_sub pe_int pe_int) (pa_cons pe_int (pa_cons pe_int (pa_cons (pe_op op_sub pe_int pe_int) (pa_cons (pe_callH (ok_law_any T) hr (by rfl) (pa_cons (pv 0) (pa_cons pe_int pa_nil))) pa_nil)))))))))))) pa_nil))) pa_nil)))))
      pss_nil)
      (pss_one (ps_ret (pe_tup (pa_cons pe_str (pa_cons (pe_callH (ok_law_of T) hr (by rfl) (pa_cons (pv 0) (pa_cons (pv 1) pa_nil))) pa_nil)))))), ?_⟩
    walk_at "go"
    refine ⟨B, d, l, 3, rfl, e, hD, by omega, by omega, fun B1 H1 r n1 D1 r0 r1 => ?_⟩
    walk_at "sx"
    have S1 := n1.sq hS (by simp [ad, al])
    by_cases h0 : r = 0
    · refine ifT (int_eqT h0) ?_
      walk_at "sx"
      refine ⟨B1, d, l, 50, rfl, n1.h, D1, by omega, by omega, fun B2 H2 q n2 D2 q0 q1 => ?_⟩
      have n12 := n1.trans n2 fun b hb _ => D1.in b hb
      walk_at "sx"
      refine sx_newM n2.h (by simp) fun p H3 hp n3 m3 => ?_
      have D3 := D2.up n3
      have off := D2.off hp
      refine ⟨B2, d, l, p, _, rfl, n3.h, D3, m3.sq, off.1, off.2, by simp, by simp, fun B4 H4 i v n4 D4 hv => ?_⟩
      have n14 := (Deal.go n12 D2 n3).trans n4 fun b hb _ => D3.in b hb
      obtain ⟨z, rfl, hz⟩ : ∃ z : Int, v = .int z ∧ z.natAbs < 2 ^ 20 := by
        have hm := List.mem_of_getElem? hv
        simp only [List.mem_cons, List.not_mem_nil, or_false] at hm
        rcases hm with rfl | rfl | rfl | rfl | rfl | rfl | rfl | rfl | rfl | rfl | rfl <;> exact ⟨_, rfl, by omega⟩
      walk_at "sx"
      refine sx_newT (K := K) n4.h (.cons (.str _) (.cons (.int z) .nil)) (by simp) fun p5 B5 H5 hp5 n5 d5 => ?_
      exact k B5 H5 _ (.num z) (Deal.go n14 D4 n5) (D4.up n5) d5 ⟨⟨rfl, hz⟩, fun s hs => by simp [Tm.flds] at hs⟩ rfl rfl
    · refine ifF (int_eqF h0) ?_
      walk_at "sx"
      refine ⟨B1, d, l, a, _, rfl, n1.h, D1, S1, ad, al, by simpa using x0, by simp; omega, fun B4 H4 i v n4 D4 hv => ?_⟩
      have n14 := n1.trans n4 fun b hb _ => D1.in b hb
      obtain ⟨z, hz, rfl⟩ := List.mem_map.mp (List.mem_of_getElem? hv)
      walk_at "sx"
      refine sx_newT (K := K) n4.h (.cons (.str _) (.cons (.str z) .nil)) (by simp) fun p5 B5 H5 hp5 n5 d5 => ?_
      exact k B5 H5 _ (.fld z) (Deal.go n14 D4 n5) (D4.up n5) d5 ⟨rfl, fun s hs => by simp [Tm.flds] at hs; rw [hs]; exact hz⟩ rfl rfl
end
end C
namespace C
open PySem L2 G
section
variable {P : Program} {w : World} {K : PySem.W.Frag} {mg : Str → Option Value} {base : Heap}
theorem sum_erase {α : Type} (f : α → Nat) : ∀ {ts : List α} {i : Nat} {t : α}, ts[i]? = some t → ((ts.eraseIdx i).map f).sum + f t = (ts.map f).sum
  | [], _, _, h => by simp at h
  | a :: r, 0, t, h => by
    have e : a = t := Option.some.inj h
    subst e
    simp
    omega
  | a :: r, i + 1, t, h => by
    have ih := sum_erase f (ts := r) (i := i) (t := t) h
    simp only [List.eraseIdx_cons_succ, List.map_cons, List.sum_cons]
    omega
theorem map_erase {α β : Type} (f : α → β) : ∀ (ts : List α) (i : Nat), (ts.eraseIdx i).map f = (ts.map f).eraseIdx i
  | [], _ => rfl
  | _ :: _, 0 => rfl
  | a :: r, i + 1 => by
    simp only [List.eraseIdx_cons_succ, List.map_cons]
    rw [map_erase f r i]
theorem mem_of_erase {α : Type} {x : α} : ∀ {ts : List α} {i : Nat}, x ∈ ts.eraseIdx i → x ∈ ts
  | [], _, h => by simp at h
  | _ :: _, 0, h => by simp at h; simp [h]
  | a :: r, i + 1, h => by
    simp only [List.eraseIdx_cons_succ, List.mem_cons] at h
    rcases h with h | h
    · simp [h]
    · simp [mem_of_erase h]
/-- an item of a list of data -/
theorem pick_d {K : PySem.W.Frag} {B : Hp} {xs : List V} {α : Type} {g : α → PyData} {ts : List α} (h : DpAll K B xs (ts.map g)) {i : Nat} (hi : i < ts.length) : ∃ v t, xs[i]? = some v ∧ ts[i]? = some t ∧ Dp K B v (g t) := by
  obtain ⟨v, h1, h2⟩ := Dps.get h (show (ts.map g)[i]? = some (g ts[i]) by rw [List.getElem?_map, List.getElem?_eq_getElem hi]; rfl)
  exact ⟨v, ts[i], h1, List.getElem?_eq_getElem hi, h2⟩
def spSum (K : PySem.W.Frag) : Sp := fun vs H Q _ => ∃ (B : Hp) (d l a : Addr) (ns : List Str) (j : Nat), vs = [.ref d, .ref a, .int (j : Int)] ∧ Ex B H ∧ Deal B H d l ∧ SqL K H a (ns.map V.str) ∧ a ≠ d ∧ a ≠ l ∧ 0 < ns.length ∧ ns.length < 100 ∧ j ≤ 100 ∧
  ∀ B' H' v t, Nx [d, l] B H B' H' → Deal B' H' d l → Dp K B' v t.d → Drawn ns t → t.lv = j + 1 → t.size ≤ 5 * j + 1 → Q v H'
theorem ok_law_sum_of (T : Txt w K mg) : Has P w K mg base "_law_sum_of" s_law_sum_of 4 ["deal", "names", "joins"] (spSum K) := by
  refine has_mk T.d_law_sum_of sc_law_sum_of (fun _ _ _ _ _ _ us hl => match us, hl with | [_, _, _], _ => rfl) (fun vs H Q E h => ?_) (fun f cdv A outer s H vs Q E hr h => ?_)
  · obtain ⟨_, _, _, _, _, _, rfl, _⟩ := h
    rfl
  · obtain ⟨B, d, l, a, ns, j, rfl, e, hD, hS, ad, al, x0, x1, hj, k⟩ := h
    refine ⟨_, (pss_cons (ps_setLc (i := 3) (own := [("turn", 4)]) (g := (gName 4)) rfl sc_law_sum_of.nd rfl rfl (sw_true rfl rfl rfl (by decide +kernel)) (pi_range1 (by rfl) T.b_range (pa_cons (pe_op op_add (pv 2) pe_int) pa_nil)) (blkOk_by (own := [("turn", 4)]) (N := ["deal", "names", "joins", "heap", "turn", "one", "other", "made"]) (sc := defScope s_law_sum_of) (by decide +kernel)) (fun _ _ _ _ _ => pg_name (i := 4) sc_law_sum_of.nd rfl (.inl rfl)) (fun _ _ _ _ _ => pts_nil) (fun _ _ _ _ _ => (pe_callH (ok_law_leaf T) hr (by rfl) (pa_cons (pv 0) (pa_cons (pv 1) pa_nil)))))
      (pss_cons (ps_for PassesOwn.never rfl (pi_range1 (by rfl) T.b_range (pa_cons (pv 2) pa_nil)) (pg_name (i := 4) sc_law_sum_of.nd rfl (.inl rfl))
      (pss_cons (ps_set (i := 5) sc_law_sum_of.nd rfl (.inl rfl) (pe_bm PySem.F.plainAttrs_list PySem.F.slot_list_pop PySem.F.type_list_pop mt_popAt (pv 3) (pa_cons (pe_callH (ok_law_any T) hr (by rfl) (pa_cons (pv 0) (pa_cons (pe_callB cl_len (by rfl) T.b_len (by decide +kernel) (pa_cons (pv 3) pa_nil)) pa_nil))) pa_nil)))
      (pss_cons (ps_set (i := 6) sc_law_sum_of.nd rfl (.inl rfl) (pe_bm PySem.F.plainAttrs_list PySem.F.slot_list_pop PySem.F.type_list_pop mt_popAt (pv 3) (pa_cons (pe_callH (ok_law_any T) hr (by rfl) (pa_cons (pv 0) (pa_cons (pe_callB cl_len (by rfl) T.b_len (by decide +kernel) (pa_cons (pv 3) pa_nil)) pa_nil))) pa_nil)))
      (pss_cons (ps_set (i := 7) sc_law_sum_of.nd rfl (.inl rfl) (pe_tup (pa_cons (pe_callH (ok_law_of T) hr (by rfl) (pa_cons (pv 0) (pa_cons (pe_lst (pa_cons pe_str (pa_cons pe_str (pa_cons pe_str (pa_cons pe_str (pa_cons pe_str (pa_cons pe_str (pa_cons pe_str pa_nil)))))))) pa_nil))) (pa_cons (pv 5) (pa_cons (pv 6) pa_nil)))))
      (pss_cons (ps_if (pt_cmpR op_eq (pe_callH (ok_law_any T) hr (by rfl) (pa_cons (pv 0) (pa_cons pe_int pa_nil))) pe_int (nomark _))
      (pss_one (ps_set (i := 7) sc_law_sum_of.nd rfl (.inl rfl) (pe_tup (pa_cons (pe_callH (ok_law_of T) hr (by rfl) (pa_cons (pv 0) (pa_cons (pe_lst (pa_cons pe_str (pa_cons pe_str pa_nil))) pa_nil))) (pa_cons (pv 7) (pa_cons (pe_callH (ok_law_of T) hr (by rfl) (pa_cons (pv 0) (pa_cons (pe_lst (pa_cons pe_int (pa_cons pe_int (pa_cons pe_int (pa_cons pe_int (pa_cons pe_int pa_nil)))))) pa_nil))) pa_nil))))))
      pss_nil)
      (pss_one (ps_expr (pe_bm PySem.F.plainAttrs_list PySem.F.slot_list_append PySem.F.type_list_append mt_append (pv 3) (pa_cons (pv 7) pa_nil)))))))))
      (pss_one (ps_ret (pe_ix ix_list (pv 3) pe_int (fun _ _ => rfl)))))), ?_⟩
    walk_at "go"
    rw [show (j : Int) + 1 = ((j + 1 : Nat) : Int) by omega]
    refine sx_lcR_by (by omega) (fun L i H' => H L = none ∧ ∃ (B' : Hp) (xs : List V) (ts : List Tm), Nx [d, l] B H B' H' ∧ Deal B' H' d l ∧ Mu B' H' L xs ∧ DpAll K B' xs (ts.map Tm.d) ∧ ts.length = i ∧ (∀ t ∈ ts, Drawn ns t) ∧ (ts.map Tm.lv).sum = i ∧ (ts.map Tm.size).sum = i) (fun L hL => ⟨hL, B, [], [], (Nx.own e hL), hD.up (Nx.own (M := []) e hL), Mu.new e hL, .nil, rfl, by simp, rfl, rfl⟩) (fun L i H1 hi p => ?_) (fun L H1 p => ?_)
    · obtain ⟨hL, B1, xs, ts, n1, D1, m1, d1, l1, dr1, v1, z1⟩ := p
      walk_at "st"
      refine G.sx_gname ?_
      walk_at "st"
      refine ⟨trivial, ?_⟩
      walk_at "sx"
      refine iteT ?_
      walk_at "sx"
      refine ⟨B1, d, l, a, ns, rfl, n1.h, D1, n1.sq hS (by simp [ad, al]), ad, al, x0, x1, fun B2 H2 v t n2 D2 dt dr lv sz => ?_⟩
      have offL := hD.off hL
      have m2 := m1.up n2 (by simp [offL.1, offL.2])
      have n12 := n1.trans n2 fun b hb _ => D1.in b hb
      have lx := Dps.len d1
      rw [List.length_map] at lx
      refine ⟨_, m2.h, sz_lt (by omega), hL, B2, _, ts ++ [t], Deal.go n12 D2 (m2.put n2.h) (by simp [hL]), D2.up (m2.put n2.h) (by simp [offL.1.symm, offL.2.symm]), m2.set, ?_, by simp [l1], ?_, ?_, ?_⟩
      · rw [List.map_append]
        exact Dps.app (Dps.up n2.b d1) (.cons dt .nil)
      · intro t' ht
        rcases List.mem_append.mp ht with h | h
        · exact dr1 t' h
        · rw [List.mem_singleton] at h
          rw [h]
          exact dr
      · rw [List.map_append, List.sum_append, v1]
        simp [lv]
      · rw [List.map_append, List.sum_append, z1]
        simp [sz]
    · obtain ⟨hL, B1, xs, ts, n1, D1, m1, d1, l1, dr1, v1, z1⟩ := p
      have offL := hD.off hL
      walk_at "sx"
      walk_at "st"
      refine sx_forR_by (by omega) (fun i σ H' => ∃ (B' : Hp) (xs : List V) (ts : List Tm) (y1 y2 y3 y4 : Option V), σ = [some (.ref d), some (.ref a), some (.int (j : Int)), some (.ref L), y1, y2, y3, y4] ∧ Nx [d, l] B H B' H' ∧ Deal B' H' d l ∧ Mu B' H' L xs ∧ DpAll K B' xs (ts.map Tm.d) ∧ ts.length + i = j + 1 ∧ (∀ t ∈ ts, Drawn ns t) ∧ (ts.map Tm.lv).sum = j + 1 ∧ (ts.map Tm.size).sum ≤ j + 1 + 4 * i) ⟨B1, xs, ts, _, _, _, _, rfl, n1, D1, m1, d1, by omega, dr1, v1, by omega⟩ (fun i σ H2 hi p => ?_) (fun σ H2 p => ?_)
      · obtain ⟨B2, xs, ts, y1, y2, y3, y4, rfl, n2, D2, m2, d2, l2, dr2, v2, z2⟩ := p
        have lx := Dps.len d2
        rw [List.length_map] at lx
        walk_at "sx"
        refine ⟨B2, d, l, _, rfl, n2.h, D2, by omega, by omega, fun B3 H3 r n3 D3 r0 r1 => ?_⟩
        have n23 := n2.trans n3 fun b hb _ => D2.in b hb
        have m3 := m2.up n3 (by simp [offL.1, offL.2])
        obtain ⟨q, rfl⟩ : ∃ q : Nat, r = (q : Int) := ⟨r.toNat, by omega⟩
        obtain ⟨va, ta, hva, hta, dva⟩ := pick_d d2 (i := q) (by omega)
        walk_at "sx"
        refine sx_popAt m3 n3.h hva (by omega) fun H4 n4 m4 => ?_
        have D4 := D3.up n4 (by simp [offL.1.symm, offL.2.symm])
        have n24 := Deal.go n23 D3 n4 (by simp [hL])
        walk_at "sx"
        have le1 : (xs.eraseIdx q).length + 1 = xs.length := by rw [List.length_eraseIdx]; split <;> omega
        refine ⟨B3, d, l, _, rfl, n4.h, D4, by omega, by omega, fun B5 H5 r' n5 D5 r0' r1' => ?_⟩
        have n25 := n24.trans n5 fun b hb _ => D4.in b hb
        have m5 := m4.up n5 (by simp [offL.1, offL.2])
        obtain ⟨q', rfl⟩ : ∃ q : Nat, r' = (q : Int) := ⟨r'.toNat, by omega⟩
        have d3 : DpAll K B3 (xs.eraseIdx q) ((ts.eraseIdx q).map Tm.d) := by
          rw [map_erase]
          exact Dps.erase (Dps.up n3.b d2)
        have le2 : (ts.eraseIdx q).length = (xs.eraseIdx q).length := by
          have := Dps.len d3
          rw [List.length_map] at this
          exact this.symm
        obtain ⟨vb, tb, hvb, htb, dvb⟩ := pick_d d3 (i := q') (by omega)
        have dra := dr2 ta (List.mem_of_getElem? hta)
        have drb := dr2 tb (mem_of_erase (List.mem_of_getElem? htb))
        walk_at "sx"
        refine sx_popAt m5 n5.h hvb (by omega) fun H6 n6 m6 => ?_
        have D6 := D5.up n6 (by simp [offL.1.symm, offL.2.symm])
        have n26 := Deal.go n25 D5 n6 (by simp [hL])
        walk_at "sx"
        refine sx_newM n6.h (by simp) fun p7 H7 hp7 n7 m7 => ?_
        have D7 := D6.up n7
        have off7 := D6.off hp7
        refine ⟨B5, d, l, p7, _, rfl, n7.h, D7, m7.sq, off7.1, off7.2, by simp, by simp, fun B8 H8 i8 v8 n8 D8 hv8 => ?_⟩
        have n28 := (Deal.go n26 D6 n7).trans n8 fun b hb _ => D7.in b hb
        obtain ⟨w8, rfl, hw8⟩ : ∃ w : Str, v8 = .str w ∧ w ∈ (["plus", "less", "times", "min", "max"] : List Str) := by
          have hm := List.mem_of_getElem? hv8
          simp only [List.mem_cons, List.not_mem_nil, or_false] at hm
          rcases hm with rfl | rfl | rfl | rfl | rfl | rfl | rfl <;> exact ⟨_, rfl, by decide +kernel⟩
        have m8 := (m6.up n7).up n8 (by simp [offL.1, offL.2])
        walk_at "sx"
        have dva8 : Dp K B8 va ta.d := Dp.up (n3.b.trans (n5.b.trans n8.b)) dva
        have dvb8 : Dp K B8 vb tb.d := Dp.up (n5.b.trans n8.b) dvb
        refine sx_newT (K := K) n8.h (.cons (.str _) (.cons dva8 (.cons dvb8 .nil))) (by simp) fun p9 B9 H9 hp9 n9 d9 => ?_
        have d9 : Dp K B9 (.ref p9) (Tm.bin w8 ta tb).d := d9
        have D9 := D8.up n9
        have n29 := Deal.go n28 D8 n9
        have m9 := m8.up n9
        have dr9 : Drawn ns (.bin w8 ta tb) := ⟨.inl ⟨rfl, hw8, dra.ok, drb.ok⟩, fun s hs => by
          simp only [Tm.flds, List.mem_append] at hs
          rcases hs with h | h
          · exact dra.fl s h
          · exact drb.fl s h⟩
        have lvs : ((((ts.eraseIdx q).eraseIdx q').map Tm.lv).sum + tb.lv) + ta.lv = j + 1 := by rw [sum_erase Tm.lv htb, sum_erase Tm.lv hta, v2]
        have szs : ((((ts.eraseIdx q).eraseIdx q').map Tm.size).sum + tb.size) + ta.size ≤ j + 1 + 4 * i := by rw [sum_erase Tm.size htb, sum_erase Tm.size hta]; exact z2
        have le3 : ((ts.eraseIdx q).eraseIdx q').length + 1 = (ts.eraseIdx q).length := by rw [List.length_eraseIdx]; split <;> omega
        have d6 : DpAll K B9 ((xs.eraseIdx q).eraseIdx q') (((ts.eraseIdx q).eraseIdx q').map Tm.d) := by
          rw [map_erase]
          exact Dps.erase (Dps.up (n5.b.trans (n8.b.trans n9.b)) d3)
        have lx6 := Dps.len d6
        rw [List.length_map] at lx6
        have hmem : ∀ t ∈ (ts.eraseIdx q).eraseIdx q', Drawn ns t := fun t ht => dr2 t (mem_of_erase (mem_of_erase ht))
        walk_at "sx"
        refine ⟨B9, d, l, 3, rfl, n9.h, D9, by omega, by omega, fun B10 H10 r10 n10 D10 r100 r101 => ?_⟩
        have n210 := n29.trans n10 fun b hb _ => D9.in b hb
        have m10 := m9.up n10 (by simp [offL.1, offL.2])
        walk_at "sx"
        -- the end of a turn
        have fin : ∀ (B' H' : Hp) (v : V) (t : Tm) (y1 y2 y3 : Option V), Nx [d, l] B H B' H' → Deal B' H' d l → Mu B' H' L ((xs.eraseIdx q).eraseIdx q') → Ex B9 B' → Dp K B' v t.d → Drawn ns t → t.lv = ta.lv + tb.lv → t.size ≤ ta.size + tb.size + 4 →
            rAppend (.ref L) [v] H' fun _ H1 => ∃ (B' : Hp) (xs : List V) (ts : List Tm) (z1 z2 z3 z4 : Option V), [some (.ref d), some (.ref a), some (.int (j : Int)), some (.ref L), y1, y2, y3, some v] = [some (.ref d), some (.ref a), some (.int (j : Int)), some (.ref L), z1, z2, z3, z4] ∧ Nx [d, l] B H B' H1 ∧ Deal B' H1 d l ∧ Mu B' H1 L xs ∧ DpAll K B' xs (ts.map Tm.d) ∧ ts.length + (i + 1) = j + 1 ∧ (∀ t ∈ ts, Drawn ns t) ∧ (ts.map Tm.lv).sum = j + 1 ∧ (ts.map Tm.size).sum ≤ j + 1 + 4 * (i + 1) := by
          intro B' H' v t y1 y2 y3 n' D' m' e' d' dr' lv' sz'
          refine sx_append m' n'.h (by omega) fun H'' n'' m'' => ?_
          refine ⟨B', _, (ts.eraseIdx q).eraseIdx q' ++ [t], _, _, _, _, rfl, Deal.go n' D' n'' (by simp [hL]), D'.up n'' (by simp [offL.1.symm, offL.2.symm]), m'', ?_, ?_, ?_, ?_, ?_⟩
          · rw [List.map_append]
            exact Dps.app (Dps.up e' d6) (.cons d' .nil)
          · rw [List.length_append, List.length_singleton]
            omega
          · intro t' ht
            rcases List.mem_append.mp ht with h | h
            · exact hmem t' h
            · rw [List.mem_singleton] at h
              rw [h]
              exact dr'
          · rw [List.map_append, List.sum_append]
            simp
            omega
          · rw [List.map_append, List.sum_append]
            simp
            omega
        by_cases h10 : r10 = 0
        · refine ifT (int_eqT h10) ?_
          walk_at "sx"
          refine sx_newM n10.h (by simp) fun p11 H11 hp11 n11 m11 => ?_
          have D11 := D10.up n11
          have off11 := D10.off hp11
          refine ⟨B10, d, l, p11, _, rfl, n11.h, D11, m11.sq, off11.1, off11.2, by simp, by simp, fun B12 H12 i12 v12 n12 D12 hv12 => ?_⟩
          have n212 := (Deal.go n210 D10 n11).trans n12 fun b hb _ => D11.in b hb
          obtain ⟨w12, rfl, hw12⟩ : ∃ w : Str, v12 = .str w ∧ w ∈ (["div", "rest"] : List Str) := by
            have hm := List.mem_of_getElem? hv12
            simp only [List.mem_cons, List.not_mem_nil, or_false] at hm
            rcases hm with rfl | rfl <;> exact ⟨_, rfl, by decide +kernel⟩
          walk_at "sx"
          refine sx_newM n12.h (by simp) fun p13 H13 hp13 n13 m13 => ?_
          have D13 := D12.up n13
          have off13 := D12.off hp13
          refine ⟨B12, d, l, p13, _, rfl, n13.h, D13, m13.sq, off13.1, off13.2, by simp, by simp, fun B14 H14 i14 v14 n14 D14 hv14 => ?_⟩
          have n214 := (Deal.go n212 D12 n13).trans n14 fun b hb _ => D13.in b hb
          obtain ⟨z, rfl, hz0, hz1⟩ : ∃ z : Int, v14 = .int z ∧ 0 < z ∧ z < 1000000 := by
            have hm := List.mem_of_getElem? hv14
            simp only [List.mem_cons, List.not_mem_nil, or_false] at hm
            rcases hm with rfl | rfl | rfl | rfl | rfl <;> exact ⟨_, rfl, by decide, by decide⟩
          walk_at "sx"
          have m14 := (((m10.up n11).up n12 (by simp [offL.1, offL.2])).up n13).up n14 (by simp [offL.1, offL.2])
          refine sx_newT (K := K) n14.h (.cons (.str _) (.cons (Dp.up (n10.b.trans (n12.b.trans n14.b)) d9) (.cons (.int z) .nil))) (by simp) fun p15 B15 H15 hp15 n15 d15 => ?_
          have d15 : Dp K B15 (.ref p15) (Tm.cut w12 (.bin w8 ta tb) z).d := d15
          have m15 := m14.up n15
          walk_at "sx"
          refine fin B15 H15 _ (.cut w12 (.bin w8 ta tb) z) _ _ _ (Deal.go n214 D14 n15) (D14.up n15) m15 (n10.b.trans (n12.b.trans (n14.b.trans n15.b))) d15 ⟨⟨rfl, hw12, hz0, hz1, dr9.ok⟩, dr9.fl⟩ rfl (by simp only [Tm.size]; omega)
        · refine ifF (int_eqF h10) ?_
          walk_at "sx"
          refine fin B10 H10 _ (.bin w8 ta tb) _ _ _ n210 D10 m10 n10.b (Dp.up n10.b d9) dr9 rfl (by simp only [Tm.size]; omega)
      · obtain ⟨B2, xs, ts, y1, y2, y3, y4, rfl, n2, D2, m2, d2, l2, dr2, v2, z2⟩ := p
        obtain ⟨t, rfl⟩ : ∃ t, ts = [t] := List.length_eq_one_iff.mp (by omega)
        walk_at "sx"
        cases d2 with
        | cons h1 h2 =>
          cases h2
          refine sx_ixL m2.sq at0 ?_
          have hsz : t.size ≤ j + 1 + 4 * j := by simpa using z2
          exact k B2 H2 _ t n2 D2 h1 (dr2 t (by simp)) (by simpa using v2) (by omega)
end
end C
namespace C
open PySem L2 G
section
variable {P : Program} {w : World} {K : PySem.W.Frag} {mg : Str → Option Value} {base : Heap}
/-- _law_joined -/
def spJoined (K : PySem.W.Frag) : Sp := fun vs H Q _ => ∃ (B : Hp) (z : Str) (x y : PyData), vs = [.str z, toV x, toV y] ∧ Ex B H ∧ Typed z x y ∧ ∀ B' H', Nx [] B H B' H' → Q (toV (op2 z x y)) H'
theorem op2_plus (i j : Int) : op2 "plus" (.int i) (.int j) = .int (i + j) := rfl
theorem ok_law_joined (T : Txt w K mg) : Has P w K mg base "_law_joined" s_law_joined 1 ["word", "one", "other"] (spJoined K) := by
  refine has_mk T.d_law_joined sc_law_joined (fun _ _ _ _ _ _ us hl => match us, hl with | [_, _, _], _ => rfl) (fun vs H Q E h => ?_) (fun f cdv A outer s H vs Q E hr h => ?_)
  · obtain ⟨_, _, _, _, rfl, _⟩ := h
    rfl
  · obtain ⟨B, z, x, y, rfl, e, ty, k⟩ := h
    refine ⟨_, (pss_cons (ps_if (pt_cmpR op_in_seq (pv 0) (pe_lst (pa_cons pe_str (pa_cons pe_str pa_nil))) (by rfl))
      (pss_one (ps_ret (pe_ifExp (pt_cmpR op_eq (pv 0) pe_str (nomark _)) (pe_op op_add (pv 1) (pv 2)) (pe_op op_sub (pv 1) (pv 2)))))
      pss_nil)
      (pss_cons (ps_if (pt_cmpR op_eq (pv 0) pe_str (nomark _))
      (pss_one (ps_ret (pe_op op_mulW (pv 1) (pv 2))))
      pss_nil)
      (pss_cons (ps_if (pt_cmpR op_in_seq (pv 0) (pe_lst (pa_cons pe_str (pa_cons pe_str pa_nil))) (by rfl))
      (pss_one (ps_ret (pe_ix ix_list (pe_callB cr_sorted (by rfl) T.b_sorted (by decide +kernel) (pa_cons (pe_lst (pa_cons (pv 1) (pa_cons (pv 2) pa_nil))) pa_nil)) (pe_ifExp (pt_cmpR op_eq (pv 0) pe_str (nomark _)) pe_int pe_int) (fun _ _ => rfl))))
      pss_nil)
      (pss_cons (ps_if (pt_cmpR op_in_seq (pv 0) (pe_lst (pa_cons pe_str (pa_cons pe_str pa_nil))) (by rfl))
      (pss_one (ps_ret (pe_ifExp (pt_cmpR op_eq (pv 0) pe_str (nomark _)) (pe_cmpR op_eq (pv 1) (pv 2) (nomark _)) (pe_cmpR op_lt (pv 1) (pv 2) (nomark _)))))
      pss_nil)
      (pss_one (ps_ret (pe_ifExp (pt_cmpR op_eq (pv 0) pe_str (nomark _)) (pe_and (pv 1) (pe_one (pv 2))) (pe_or (pv 1) (pe_one (pv 2)))))))))), ?_⟩
    walk_at "go"
    refine sx_newM e (by simp) fun p1 H1 hp1 n1 m1 => ?_
    refine sx_inLs ["plus", "less"] m1.sq ?_
    walk_at "sx"
    rcases ty with ⟨i, j, rfl, rfl, hw, hi, hj⟩ | ⟨p, q, rfl, rfl, hw⟩
    · simp only [toV]
      simp only [List.mem_cons, List.not_mem_nil, or_false] at hw
      rcases hw with rfl | rfl | rfl | rfl | rfl | rfl | rfl
      · refine ifT (by decide +kernel) ?_
        walk_at "sx"
        refine ifT (str_eqT rfl) ?_
        walk_at "sx"
        exact k B H1 n1
      · refine ifT (by decide +kernel) ?_
        walk_at "sx"
        refine ifF (str_eqF (by decide +kernel)) ?_
        walk_at "sx"
        exact k B H1 n1
      · refine ifF (by decide +kernel) ?_
        walk_at "sx"
        refine ifT (str_eqT rfl) ?_
        walk_at "sx"
        refine sx_mulW hi hj (by decide) (by decide) (by decide) ?_
        exact k B H1 n1
      · refine ifF (by decide +kernel) ?_
        walk_at "sx"
        refine ifF (str_eqF (by decide +kernel)) ?_
        walk_at "sx"
        refine sx_newM n1.h (by simp) fun p2 H2 hp2 n2 m2 => ?_
        refine sx_inLs ["min", "max"] m2.sq ?_
        walk_at "sx"
        refine ifT (by decide +kernel) ?_
        walk_at "sx"
        refine sx_newM n2.h (by simp) fun p3 H3 hp3 n3 m3 => ?_
        walk_at "sx"
        refine sx_sorted2 n3.h m3.sq fun p4 H4 hp4 n4 m4 => ?_
        walk_at "sx"
        refine ifT (str_eqT rfl) ?_
        walk_at "sx"
        exact k B H4 (((n1.tr n2).tr n3).tr n4)
      · refine ifF (by decide +kernel) ?_
        walk_at "sx"
        refine ifF (str_eqF (by decide +kernel)) ?_
        walk_at "sx"
        refine sx_newM n1.h (by simp) fun p2 H2 hp2 n2 m2 => ?_
        refine sx_inLs ["min", "max"] m2.sq ?_
        walk_at "sx"
        refine ifT (by decide +kernel) ?_
        walk_at "sx"
        refine sx_newM n2.h (by simp) fun p3 H3 hp3 n3 m3 => ?_
        walk_at "sx"
        refine sx_sorted2 n3.h m3.sq fun p4 H4 hp4 n4 m4 => ?_
        walk_at "sx"
        refine ifF (str_eqF (by decide +kernel)) ?_
        walk_at "sx"
        exact k B H4 (((n1.tr n2).tr n3).tr n4)
      all_goals
        refine ifF (by decide +kernel) ?_
        walk_at "sx"
        refine ifF (str_eqF (by decide +kernel)) ?_
        walk_at "sx"
        refine sx_newM n1.h (by simp) fun p2 H2 hp2 n2 m2 => ?_
        refine sx_inLs ["min", "max"] m2.sq ?_
        walk_at "sx"
        refine ifF (by decide +kernel) ?_
        walk_at "sx"
        refine sx_newM n2.h (by simp) fun p3 H3 hp3 n3 m3 => ?_
        refine sx_inLs ["same", "below"] m3.sq ?_
        walk_at "sx"
        refine ifT (by decide +kernel) ?_
        walk_at "sx"
        have k := k B H3 ((n1.tr n2).tr n3)
      · refine ifT (str_eqT rfl) ?_
        walk_at "sx"
        rw [show (decide (V.int i = V.int j)) = decide (i = j) from by rw [decide_eq_decide]; exact ⟨fun h => V.int.inj h, fun h => by rw [h]⟩]
        exact k
      · refine ifF (str_eqF (by decide +kernel)) ?_
        walk_at "sx"
        exact k
    · simp only [toV]
      simp only [List.mem_cons, List.not_mem_nil, or_false] at hw
      rcases hw with rfl | rfl
      all_goals
        refine ifF (by decide +kernel) ?_
        walk_at "sx"
        refine ifF (str_eqF (by decide +kernel)) ?_
        walk_at "sx"
        refine sx_newM n1.h (by simp) fun p2 H2 hp2 n2 m2 => ?_
        refine sx_inLs ["min", "max"] m2.sq ?_
        walk_at "sx"
        refine ifF (by decide +kernel) ?_
        walk_at "sx"
        refine sx_newM n2.h (by simp) fun p3 H3 hp3 n3 m3 => ?_
        refine sx_inLs ["same", "below"] m3.sq ?_
        walk_at "sx"
        refine ifF (by decide +kernel) ?_
        walk_at "sx"
        have k := k B H3 ((n1.tr n2).tr n3)
      · refine ifT (str_eqT rfl) ?_
        walk_at "sx"
        cases p with
        | true =>
          refine ifT rfl ?_
          walk_at "sx"
          exact k
        | false =>
          refine ifF rfl ?_
          exact k
      · refine ifF (str_eqF (by decide +kernel)) ?_
        walk_at "sx"
        cases p with
        | true =>
          refine ifT rfl ?_
          exact k
        | false =>
          refine ifF rfl ?_
          walk_at "sx"
          exact k
/-- _law_halved -/
def spHalved : Sp := fun vs H Q _ => ∃ (z : Str) (i n : Int), vs = [.str z, .int i, .int n] ∧ z ∈ (["div", "rest"] : List Str) ∧ 0 < n ∧ n < 1000000 ∧ i.natAbs < 2 ^ 400000 ∧ Q (toV (op1 z n (.int i))) H
theorem ok_law_halved (T : Txt w K mg) : Has P w K mg base "_law_halved" s_law_halved 1 ["word", "one", "number"] spHalved := by
  refine has_mk T.d_law_halved sc_law_halved (fun _ _ _ _ _ _ us hl => match us, hl with | [_, _, _], _ => rfl) (fun vs H Q E h => ?_) (fun f cdv A outer s H vs Q E hr h => ?_)
  · obtain ⟨_, _, _, rfl, _⟩ := h
    rfl
  · obtain ⟨z, i, n, rfl, hz, n0, n1, hi, k⟩ := h
    refine ⟨_, (pss_cons (ps_set (i := 3) sc_law_halved.nd rfl (.inl rfl) (pe_op op_sub (pv 1) (pe_op op_mulW (pv 2) (pe_op op_fdiv (pv 1) (pv 2)))))
      (pss_one (ps_ret (pe_ifExp (pt_cmpR op_eq (pv 0) pe_str (nomark _)) (pe_op op_fdiv (pe_callTy cl_int (by rfl) T.b_int (by decide +kernel) (pa_cons (pe_op op_sub (pv 1) (pv 3)) pa_nil)) (pv 2)) (pv 3))))), ?_⟩
    walk_at "go"
    have hd : (i / n).natAbs < 2 ^ 400000 := Nat.lt_of_le_of_lt (Int.natAbs_ediv_le_natAbs i n) hi
    refine sx_mulW (a := 20) (b := 400000) (by omega) hd (by decide) (by decide) (by decide) ?_
    walk_at "sx"
    have e1 : i - n * (i / n) = i % n := by
      have := Int.emod_add_mul_ediv i n
      omega
    have e2 : (i - i % n) / n = i / n := by
      have : i - i % n = n * (i / n) := by
        have := Int.emod_add_mul_ediv i n
        omega
      rw [this]
      exact Int.mul_ediv_cancel_left _ (by omega)
    rw [e1]
    simp only [List.mem_cons, List.not_mem_nil, or_false] at hz
    rcases hz with rfl | rfl
    · refine ifT (str_eqT rfl) ?_
      walk_at "sx"
      rw [e2]
      exact k
    · refine ifF (str_eqF (by decide +kernel)) ?_
      walk_at "sx"
      exact k
end
end C
namespace C
open PySem L2 G
section
variable {P : Program} {w : World} {K : PySem.W.Frag} {mg : Str → Option Value} {base : Heap}
def subs : Tm → List Tm
  | .bin _ a b => [a, b]
  | .cut _ a _ => [a]
  | .neg a => [a]
  | _ => []
def Tm.mu : Tm → Nat
  | .bin _ a b => a.mu + b.mu + 3
  | .cut _ a _ => a.mu + 2
  | .neg a => a.mu + 2
  | _ => 1
def muS (q : Tm × Nat) : Nat := 1 + (((subs q.1).drop q.2).map fun t => t.mu + 1).sum
theorem muS_0 (t : Tm) : muS (t, 0) = t.mu := by
  cases t <;> simp [muS, subs, Tm.mu] <;> omega
theorem muS_step {t a : Tm} {s : Nat} (h : (subs t)[s]? = some a) : muS (t, s) = muS (t, s + 1) + a.mu + 1 := by
  have hl := (List.getElem?_eq_some_iff.mp h).1
  unfold muS
  show 1 + (((subs t).drop s).map fun t => t.mu + 1).sum = 1 + (((subs t).drop (s + 1)).map fun t => t.mu + 1).sum + a.mu + 1
  rw [List.drop_eq_getElem_cons hl, (List.getElem?_eq_some_iff.mp h).2, List.map_cons, List.sum_cons]
  omega
inductive Good (env : Str → Int) : List (Tm × Nat) → List PyData → List PyData → Prop
  | nil (f : List PyData) : Good env [] f f
  | cons (t : Tm) (s : Nat) (r : List (Tm × Nat)) (g fin : List PyData) (hs : s ≤ (subs t).length) (h : Good env r (g ++ [t.ev env]) fin) : Good env ((t, s) :: r) (g ++ ((subs t).take s).map (Tm.ev env)) fin
def mk (q : Tm × Nat) : PyData := .tuple [q.1.d, .int (q.2 : Int)]
/-- where it stays: right, over some fields, of some size -/
structure Fine (F : List Str) (n : Nat) (t : Tm) : Prop where
  ok : ∃ c, t.Ok c
  fl : ∀ s ∈ t.flds, s ∈ F
  lv : t.lv ≤ n
theorem Fine.subs {F : List Str} {n : Nat} {t : Tm} (h : Fine F n t) : ∀ a ∈ subs t, Fine F n a := by
  obtain ⟨⟨c, ok⟩, fl, lv⟩ := h
  cases t with
  | num i => intro a ha; simp [C.subs] at ha
  | fld s => intro a ha; simp [C.subs] at ha
  | bin w x y =>
    intro a ha
    have lx := x.lv_pos
    have ly := y.lv_pos
    simp only [Tm.lv] at lv
    simp only [C.subs, List.mem_cons, List.not_mem_nil, or_false] at ha
    rcases ha with rfl | rfl
    · exact ⟨by rcases ok with ⟨_, _, h, _⟩ | ⟨_, _, h, _⟩ | ⟨_, _, h, _⟩ <;> exact ⟨_, h⟩, fun s hs => fl s (by simp [Tm.flds, hs]), by omega⟩
    · exact ⟨by rcases ok with ⟨_, _, _, h⟩ | ⟨_, _, _, h⟩ | ⟨_, _, _, h⟩ <;> exact ⟨_, h⟩, fun s hs => fl s (by simp [Tm.flds, hs]), by omega⟩
  | cut w x k =>
    intro a ha
    simp only [C.subs, List.mem_cons, List.not_mem_nil, or_false] at ha
    subst ha
    exact ⟨⟨_, ok.2.2.2.2⟩, fl, lv⟩
  | neg x =>
    intro a ha
    simp only [C.subs, List.mem_cons, List.not_mem_nil, or_false] at ha
    subst ha
    exact ⟨⟨_, ok.2⟩, fl, lv⟩
/-- what is tuple among the things behind the first -/
theorem subs_d (t : Tm) : ∃ ds, t.d = .tuple (.str (fst t) :: ds) ∧ ds.filter isTup = (subs t).map Tm.d ∧ ds.length ≤ 2 := by
  cases t with
  | num i => exact ⟨[.int i], rfl, rfl, by simp⟩
  | fld s => exact ⟨[.str s], rfl, rfl, by simp⟩
  | bin w a b =>
    obtain ⟨x, hx⟩ := tm_d a
    obtain ⟨y, hy⟩ := tm_d b
    refine ⟨[a.d, b.d], rfl, ?_, by simp⟩
    show [a.d, b.d].filter isTup = [a.d, b.d]
    rw [hx, hy]
    rfl
  | cut w a n =>
    obtain ⟨x, hx⟩ := tm_d a
    refine ⟨[a.d, .int n], rfl, ?_, by simp⟩
    show [a.d, .int n].filter isTup = [a.d]
    rw [hx]
    rfl
  | neg a =>
    obtain ⟨x, hx⟩ := tm_d a
    refine ⟨[a.d], rfl, ?_, by simp⟩
    show [a.d].filter isTup = [a.d]
    rw [hx]
    rfl
theorem typed_bin {env : Str → Int} {F : List Str} {w : Str} {a b : Tm} {c : Bool} (h : (Tm.bin w a b).Ok c) (hf : ∀ s ∈ (Tm.bin w a b).flds, s ∈ F) (hb : ∀ s ∈ F, (env s).natAbs < 2 ^ 20) (hl : (Tm.bin w a b).lv ≤ 20000) : Typed w (a.ev env) (b.ev env) := by
  have hfa : ∀ s ∈ a.flds, s ∈ F := fun s hs => hf s (by simp [Tm.flds, hs])
  have hfb : ∀ s ∈ b.flds, s ∈ F := fun s hs => hf s (by simp [Tm.flds, hs])
  have la := a.lv_pos
  have lb := b.lv_pos
  have hl' : a.lv + b.lv ≤ 20000 := hl
  rcases h with ⟨rfl, hw, ha, hb'⟩ | ⟨rfl, hw, ha, hb'⟩ | ⟨rfl, hw, ha, hb'⟩
  · obtain ⟨i, ei, hi⟩ := Tm.ev_ok ha (fun s hs => hb s (hfa s hs))
    obtain ⟨j, ej, hj⟩ := Tm.ev_ok hb' (fun s hs => hb s (hfb s hs))
    refine .inl ⟨i, j, ei, ej, ?_, Nat.lt_of_lt_of_le hi (pow_mono (by omega)), Nat.lt_of_lt_of_le hj (pow_mono (by omega))⟩
    simp only [List.mem_cons, List.not_mem_nil, or_false] at hw ⊢
    rcases hw with h | h | h | h | h <;> simp [h]
  · obtain ⟨i, ei, hi⟩ := Tm.ev_ok ha (fun s hs => hb s (hfa s hs))
    obtain ⟨j, ej, hj⟩ := Tm.ev_ok hb' (fun s hs => hb s (hfb s hs))
    refine .inl ⟨i, j, ei, ej, ?_, Nat.lt_of_lt_of_le hi (pow_mono (by omega)), Nat.lt_of_lt_of_le hj (pow_mono (by omega))⟩
    simp only [List.mem_cons, List.not_mem_nil, or_false] at hw ⊢
    rcases hw with h | h <;> simp [h]
  · obtain ⟨p, ep⟩ := Tm.ev_ok ha (fun s hs => hb s (hfa s hs))
    obtain ⟨q, eq⟩ := Tm.ev_ok hb' (fun s hs => hb s (hfb s hs))
    exact .inr ⟨p, q, ep, eq, hw⟩
theorem leaf_no : ∀ w ∈ (["plus", "less", "times", "min", "max", "same", "below", "and", "or", "div", "rest", "not"] : List Str), w ≠ "number" ∧ w ≠ "field" := by decide +kernel
theorem cut_not : ∀ w ∈ (["div", "rest"] : List Str), w ≠ "not" ∧ w ≠ "number" ∧ w ≠ "field" := by decide +kernel
def spWorthOf (K : PySem.W.Frag) : Sp := fun vs H Q _ => ∃ (B : Hp) (x : V) (a : Addr) (t : Tm) (c : Bool) (F : List Str) (env : Str → Int) (kvs : List (Key × V)), vs = [x, .ref a] ∧ Ex B H ∧ Dp K B x t.d ∧ t.Ok c ∧ t.mu ≤ 20000 ∧ t.lv ≤ 20000 ∧ (∀ s ∈ t.flds, s ∈ F) ∧ B a = some (.dK kvs) ∧ (∀ s ∈ F, valV kvs (.inr s) = some (.int (env s))) ∧ (∀ s ∈ F, (env s).natAbs < 2 ^ 20) ∧
  ∀ B' H', Nx [] B H B' H' → Q (toV (t.ev env)) H'
theorem ok_law_worth_of (T : Txt w K mg) : Has P w K mg base "_law_worth_of" s_law_worth_of 2 ["thing", "told"] (spWorthOf K) := by
  refine has_mk T.d_law_worth_of sc_law_worth_of (fun _ _ _ _ _ _ us hl => match us, hl with | [_, _], _ => rfl) (fun vs H Q E h => ?_) (fun f cdv A outer s H vs Q E hr h => ?_)
  · obtain ⟨_, _, _, _, _, _, _, _, rfl, _⟩ := h
    rfl
  · obtain ⟨B, x, a, t, c, F, env, kvs, rfl, e, hx, hok, hsz, hlv, hF, hd, hk, hbd, k⟩ := h
    refine ⟨_, (pss_cons (ps_par (i := 2) (j := 3) (by rfl) sc_law_worth_of.nd rfl rfl (by decide) rfl rfl (pa_cons (pe_lst (pa_cons (pe_tup (pa_cons (pv 0) (pa_cons pe_int pa_nil))) pa_nil)) (pa_cons (pe_lst pa_nil) pa_nil)) (by rfl))
      (G.pss_cut (ps_while PassesOwn.never (pt_cmpR op_gt (pe_callB cl_len (by rfl) T.b_len (by decide +kernel) (pa_cons (pv 2) pa_nil)) pe_int (nomark _))
      (pss_cons (ps_asg (pe_bm0 PySem.F.plainAttrs_list PySem.F.slot_list_pop PySem.F.type_list_pop mt_pop (pv 2)) (pg_tup (by rfl) (pgs_cons (pg_name (i := 4) sc_law_worth_of.nd rfl (.inl rfl)) (pgs_cons (pg_name (i := 5) sc_law_worth_of.nd rfl (.inl rfl)) pgs_nil))))
      (pss_cons (ps_setLc (i := 6) (own := [("part", 7)]) (g := (gName 7)) rfl sc_law_worth_of.nd rfl rfl (sw_true rfl rfl rfl (by decide +kernel)) (pi_tup (pe_slice sl_tup (pv 4) (po_some pe_int) po_none)) (blkOk_by (own := [("part", 7)]) (N := ["thing", "told", "todo", "found", "one", "seen", "parts", "part", "last"]) (sc := defScope s_law_worth_of) (by decide +kernel)) (fun _ _ _ _ _ => pg_name (i := 7) sc_law_worth_of.nd rfl (.inl rfl)) (fun _ _ _ _ _ => (pts_one (pt_val (pe_callB (G.k_isi (K := K) rfl) (by rfl) T.b_isinstance (by decide +kernel) (pa_cons (pv 7) (pa_cons (pe_bT (n := "tuple") (by rfl) T.b_tuple (by decide +kernel)) pa_nil)))))) (fun _ _ _ _ _ => (pv 7)))
      (pss_one (ps_if (pt_cmpR op_lt (pv 5) (pe_callB cl_len (by rfl) T.b_len (by decide +kernel) (pa_cons (pv 6) pa_nil)) (nomark _))
      (pss_cons (ps_expr (pe_bm PySem.F.plainAttrs_list PySem.F.slot_list_append PySem.F.type_list_append mt_append (pv 2) (pa_cons (pe_tup (pa_cons (pv 4) (pa_cons (pe_op op_add (pv 5) pe_int) pa_nil))) pa_nil)))
      (pss_one (ps_expr (pe_bm PySem.F.plainAttrs_list PySem.F.slot_list_append PySem.F.type_list_append mt_append (pv 2) (pa_cons (pe_tup (pa_cons (pe_ix ix_list (pv 6) (pv 5) (fun _ _ => rfl)) (pa_cons pe_int pa_nil))) pa_nil)))))
      (pss_one (ps_if (pt_cmpR op_eq (pe_ix ix_tup (pv 4) pe_int (fun _ _ => rfl)) pe_str (nomark _))
      (pss_one (ps_expr (pe_bm PySem.F.plainAttrs_list PySem.F.slot_list_append PySem.F.type_list_append mt_append (pv 3) (pa_cons (pe_ix ix_tup (pv 4) pe_int (fun _ _ => rfl)) pa_nil))))
      (pss_one (ps_if (pt_cmpR op_eq (pe_ix ix_tup (pv 4) pe_int (fun _ _ => rfl)) pe_str (nomark _))
      (pss_one (ps_expr (pe_bm PySem.F.plainAttrs_list PySem.F.slot_list_append PySem.F.type_list_append mt_append (pv 3) (pa_cons (pe_dget (hu_of hr) (pv 1) (pe_ix ix_tup (pv 4) pe_int (fun _ _ => rfl)) (fun _ _ => rfl)) pa_nil))))
      (pss_one (ps_if (pt_cmpR op_eq (pe_callB cl_len (by rfl) T.b_len (by decide +kernel) (pa_cons (pv 6) pa_nil)) pe_int (nomark _))
      (pss_cons (ps_set (i := 8) sc_law_worth_of.nd rfl (.inl rfl) (pe_bm0 PySem.F.plainAttrs_list PySem.F.slot_list_pop PySem.F.type_list_pop mt_pop (pv 3)))
      (pss_one (ps_expr (pe_bm PySem.F.plainAttrs_list PySem.F.slot_list_append PySem.F.type_list_append mt_append (pv 3) (pa_cons (pe_callH (ok_law_joined T) hr (by rfl) (pa_cons (pe_ix ix_tup (pv 4) pe_int (fun _ _ => rfl)) (pa_cons (pe_bm0 PySem.F.plainAttrs_list PySem.F.slot_list_pop PySem.F.type_list_pop mt_pop (pv 3)) (pa_cons (pv 8) pa_nil)))) pa_nil)))))
      (pss_one (ps_expr (pe_bm PySem.F.plainAttrs_list PySem.F.slot_list_append PySem.F.type_list_append mt_append (pv 3) (pa_cons (pe_ifExp (pt_cmpR op_eq (pe_ix ix_tup (pv 4) pe_int (fun _ _ => rfl)) pe_str (nomark _)) (pe_not (pe_bm0 PySem.F.plainAttrs_list PySem.F.slot_list_pop PySem.F.type_list_pop mt_pop (pv 3))) (pe_callH (ok_law_halved T) hr (by rfl) (pa_cons (pe_ix ix_tup (pv 4) pe_int (fun _ _ => rfl)) (pa_cons (pe_bm0 PySem.F.plainAttrs_list PySem.F.slot_list_pop PySem.F.type_list_pop mt_pop (pv 3)) (pa_cons (pe_ix ix_tup (pv 4) pe_int (fun _ _ => rfl)) pa_nil))))) pa_nil)))))))))))))))
      (pss_one (ps_ret (pe_ix ix_list (pv 3) pe_int (fun _ _ => rfl)))))), ?_⟩
    walk_at "go"
    refine sx_newT e (.cons hx (.cons (.int 0) .nil)) (by simp) fun p1 B1 H1 hp1 n1 d1 => ?_
    have d1 : Dp K B1 (.ref p1) (mk (t, 0)) := d1
    walk_at "sx"
    refine sx_newM n1.h (by simp) fun Lt H2 ht n2 mt => ?_
    walk_at "sx"
    refine sx_newM n2.h (by simp) fun Lf H3 hf n3 mf => ?_
    walk_at "sx"
    walk_at "st"
    have n12 := n1.tr n2
    have ht0 : H Lt = none := n1.ex.free ht
    have hf0 : H Lf = none := n12.ex.free hf
    have hne : Lt ≠ Lf := mt.ne' hf
    refine G.sx_cut (fun σ H' => ∃ (B' : Hp) (y3 y4 y5 y6 y7 y8 : Option V), σ = [some x, some (.ref a), some (.ref Lt), some (.ref Lf), y4, y5, y6, y7, y8] ∧ Nx [] B H B' H' ∧ Mu B' H' Lf [toV (t.ev env)]) ?_ ?_
    · refine ⟨fun m σ H' => ∃ (B' : Hp) (xs fs : List V) (qs : List (Tm × Nat)) (st : List PyData) (y4 y5 y6 y7 y8 : Option V), m = (qs.map muS).sum ∧ σ = [some x, some (.ref a), some (.ref Lt), some (.ref Lf), y4, y5, y6, y7, y8] ∧ Nx [] B H B' H' ∧ Mu B' H' Lt xs ∧ Mu B' H' Lf (st.map toV) ∧ DpAll K B' xs (qs.reverse.map mk) ∧ (∀ q ∈ qs, Fine F 20000 q.1) ∧ Good env qs st [t.ev env] ∧ (qs.map muS).sum + st.length ≤ 20000, ?_, ?_⟩
      · refine ⟨_, B1, [.ref p1], [], [(t, 0)], [], none, none, none, none, none, rfl, rfl, n12.tr n3, mt.up n3, mf, .cons d1 .nil, ?_, ?_, ?_⟩
        · intro q hq
          rw [List.mem_singleton] at hq
          subst hq
          exact ⟨⟨c, hok⟩, hF, hlv⟩
        · exact .cons t 0 [] [] _ (Nat.zero_le _) (.nil _)
        · simp [muS_0]
          exact hsz
      · rintro m σ H4 ⟨B4, xs, fs, qs, st, y4, y5, y6, y7, y8, rfl, rfl, n4, m4t, m4f, d4, fi4, g4, z4⟩
        have l4 := Dps.len d4
        rw [List.length_map, List.length_reverse] at l4
        walk_at "sx"
        cases g4 with
        | nil =>
          have : xs = [] := List.length_eq_zero_iff.mp l4
          subst this
          refine ifF (dF (by simp)) ?_
          exact ⟨B4, none, _, _, _, _, _, rfl, n4, m4f⟩
        | cons t0 sn r g fin hs h0 =>
          rw [List.reverse_cons, List.map_append, List.map_singleton] at d4
          obtain ⟨us, v, rfl, hus, hv⟩ := Dps.last d4
          rw [List.map_cons, List.sum_cons] at z4
          have f0 := fi4 (t0, sn) (by simp)
          have fr : ∀ q ∈ r, Fine F 20000 q.1 := fun q hq => fi4 q (by simp [hq])
          refine ifT (dT (by simp)) ?_
          refine ⟨_, fun _ _ h => h, ?_⟩
          walk_at "sx"
          refine sx_pop m4t n4.h fun H5 n5 m5t => ?_
          have m5f := m4f.up n5 (by simp [hne.symm])
          have n45 := n4.loc n5 (by simp [ht0])
          walk_at "sx"
          refine sx_gtup2 hv n5.h fun v1 v2 hv1 hv2 => ?_
          cases Dp.int_v hv2
          walk_at "sx"
          walk_at "st"
          walk_at "sx"
          obtain ⟨ds, ed, hfil, hl2⟩ := subs_d t0
          have hv1' := hv1
          rw [ed] at hv1'
          refine sx_tail hv1' n5.h fun p6 B6 H6 hp6 n6 d6 => ?_
          walk_at "sx"
          obtain ⟨a6, xs6, ha6, hs6, hd6⟩ := Dp.tup_v d6
          cases ha6
          refine sx_lcTups n6.h hs6 hd6 (by omega) ?_ ?_ ?_ fun p7 ys H7 hp7 n7 m7 d7 => ?_
          · intro x
            rfl
          · intro x d hx H1 R e1 h
            walk_at "sx"
            exact h
          · intro x _ H1 R e1 h
            walk_at "sx"
            exact h
          rw [hfil] at d7
          have l7 := Dps.len d7
          rw [List.length_map] at l7
          have m7t : Mu B6 H7 Lt us := (m5t.up n6).up n7
          have m7f : Mu B6 H7 Lf ((g ++ ((subs t0).take sn).map (Tm.ev env)).map toV) := (m5f.up n6).up n7
          have n47 : Nx [] B H B6 H7 := (n45.tr n6).tr n7
          have hus7 := Dps.up n6.b hus
          have lus := Dps.len hus
          rw [List.length_map, List.length_reverse] at lus
          have lr : r.length ≤ (r.map muS).sum := by
            have : ∀ l : List (Tm × Nat), l.length ≤ (l.map muS).sum := by
              intro l
              induction l with
              | nil => simp
              | cons q l ih =>
                have : 1 ≤ muS q := by unfold muS; omega
                simp only [List.length_cons, List.map_cons, List.sum_cons]
                omega
            exact this r
          have hv7 : Dp K B6 v1 (.tuple (.str (fst t0) :: ds)) := Dp.up n6.b hv1'
          have hv7' : Dp K B6 v1 t0.d := Dp.up n6.b hv1
          have hm0 : 1 ≤ muS (t0, sn) := by unfold muS; omega
          have hsub : (subs t0).length ≤ 2 := by cases t0 <;> simp [subs]
          walk_at "sx"
          by_cases hlt : sn < (subs t0).length
          · refine ifT (dT (by rw [l7]; exact Int.ofNat_lt.mpr hlt)) ?_
            obtain ⟨a0, ha0⟩ : ∃ a0, (subs t0)[sn]? = some a0 := ⟨_, List.getElem?_eq_getElem hlt⟩
            have hstep := muS_step ha0
            have fa := f0.subs a0 (List.mem_of_getElem? ha0)
            walk_at "sx"
            refine sx_newT n7.h (.cons hv7' (.cons (.int _) .nil)) (by simp) fun p8 B8 H8 hp8 n8 d8 => ?_
            have m8t := m7t.up n8
            have m8f := m7f.up n8
            have m8 := m7.up n8
            walk_at "sx"
            refine sx_append m8t n8.h (by omega) fun H9 n9 m9t => ?_
            have hneL7 : p7 ≠ Lt := (m5t.up n6).ne hp7
            have m9f := m8f.up n9 (by simp [hne.symm])
            have m9 := m8.up n9 (by simp [hneL7])
            walk_at "sx"
            obtain ⟨va, hva, hda⟩ := Dps.get d7 (i := sn) (by rw [List.getElem?_map, ha0]; rfl)
            refine sx_ixL m9.sq (atI_nat hva) ?_
            walk_at "sx"
            refine sx_newT n9.h (.cons (Dp.up (n8.b.trans n9.b) hda) (.cons (.int 0) .nil)) (by simp) fun p10 B10 H10 hp10 n10 d10 => ?_
            have m10t := m9t.up n10
            have m10f := m9f.up n10
            walk_at "sx"
            refine sx_append m10t n10.h (by simp; omega) fun H11 n11 m11t => ?_
            have m11f := m10f.up n11 (by simp [hne.symm])
            have n11' := ((((n47.tr n8).loc n9 (by simp [ht0])).tr n10).loc n11 (by simp [ht0]))
            refine ⟨((((a0, 0) :: (t0, sn + 1) :: r) : List (Tm × Nat)).map muS).sum, ?_, B10, _, [], (a0, 0) :: (t0, sn + 1) :: r, g ++ ((subs t0).take sn).map (Tm.ev env), _, _, _, _, _, rfl, rfl, n11', m11t, m11f, ?_, ?_, ?_, ?_⟩
            · simp only [List.map_cons, List.sum_cons, muS_0]
              omega
            · have e1 : Dp K B10 (.ref p8) (mk (t0, sn + 1)) := Dp.up (n9.b.trans n10.b) d8
              have e2 : Dp K B10 (.ref p10) (mk (a0, 0)) := d10
              have e0 := Dps.up ((n8.b.trans n9.b).trans n10.b) hus7
              simp only [List.reverse_cons, List.map_append, List.map_cons, List.map_nil]
              exact Dps.app (Dps.app e0 (Dps.one e1)) (Dps.one e2)
            · intro q hq
              simp only [List.mem_cons] at hq
              rcases hq with rfl | rfl | hq
              · exact fa
              · exact f0
              · exact fr q hq
            · have g1 : Good env ((t0, sn + 1) :: r) (g ++ ((subs t0).take (sn + 1)).map (Tm.ev env)) [t.ev env] := .cons t0 (sn + 1) r g _ hlt h0
              rw [List.take_add_one, ha0, Option.toList_some, List.map_append, List.map_singleton, ← List.append_assoc] at g1
              have g2 := Good.cons a0 0 _ (g ++ ((subs t0).take sn).map (Tm.ev env)) _ (Nat.zero_le _) g1
              rwa [List.take_zero, List.map_nil, List.append_nil] at g2
            · simp only [List.map_cons, List.sum_cons, muS_0]
              omega
          · refine ifF (dF (by rw [l7]; omega)) ?_
            have esn : sn = (subs t0).length := by omega
            subst esn
            rw [List.take_length] at m7f z4
            obtain ⟨⟨c0, ok0⟩, fl0, lv0⟩ := f0
            have zz : 1 + (r.map muS).sum + (g.length + (subs t0).length) ≤ 20000 := by
              rw [List.length_append, List.length_map] at z4
              omega
            have mlt : (r.map muS).sum < (((t0, (subs t0).length) :: r).map muS).sum := by
              rw [List.map_cons, List.sum_cons]
              omega
            walk_at "sx"
            refine sx_ixTd hv7 n7.h at0 fun u1 hu1 => ?_
            cases Dp.str_v hu1
            walk_at "sx"
            cases t0 with
            | num i =>
              refine ifT (str_eqT rfl) ?_
              walk_at "sx"
              refine sx_ixTd (ds := [.str "number", .int i]) hv7' n7.h at1 fun u2 hu2 => ?_
              cases Dp.int_v hu2
              walk_at "sx"
              simp only [subs, List.map_nil, List.append_nil] at m7f
              refine sx_append m7f n7.h (by simp only [subs, List.length_map, List.length_nil] at zz ⊢; omega) fun H8 n8 m8f => ?_
              refine ⟨(r.map muS).sum, ?_, B6, us, [], r, g ++ [.int i], _, _, _, _, _, rfl, rfl, n47.loc n8 (by simp [hf0]), m7t.up n8 (by simp [hne]), by simpa [toV] using m8f, hus7, fr, h0, ?_⟩
              · exact mlt
              · simp only [subs, List.length_cons, List.length_nil, List.length_append] at zz ⊢
                omega
            | fld z =>
              refine ifF (str_eqF (by show ("field" : Str) ≠ "number"; decide +kernel)) ?_
              walk_at "sx"
              refine sx_ixTd hv7 n7.h at0 fun u1 hu1 => ?_
              cases Dp.str_v hu1
              walk_at "sx"
              refine ifT (str_eqT rfl) ?_
              walk_at "sx"
              refine sx_ixTd (ds := [.str "field", .str z]) hv7' n7.h at1 fun u2 hu2 => ?_
              cases Dp.str_v hu2
              walk_at "sx"
              refine sx_dgetS n7.h (n47.b _ _ hd) (hk z (fl0 z (by simp [Tm.flds]))) ?_
              walk_at "sx"
              simp only [subs, List.map_nil, List.append_nil] at m7f
              refine sx_append m7f n7.h (by simp only [subs, List.length_map, List.length_nil] at zz ⊢; omega) fun H8 n8 m8f => ?_
              refine ⟨(r.map muS).sum, ?_, B6, us, [], r, g ++ [.int (env z)], _, _, _, _, _, rfl, rfl, n47.loc n8 (by simp [hf0]), m7t.up n8 (by simp [hne]), by simpa [toV] using m8f, hus7, fr, h0, ?_⟩
              · exact mlt
              · simp only [subs, List.length_cons, List.length_nil, List.length_append] at zz ⊢
                omega
            | bin z x0 y0 =>
              have ty := typed_bin ok0 fl0 hbd lv0
              have hz := leaf_no z (by have := (Tm.Ok.wd ok0).1; simp only [List.mem_cons, List.not_mem_nil, or_false] at this ⊢; rcases this with h | h | h | h | h | h | h | h | h <;> simp [h])
              refine ifF (str_eqF hz.1) ?_
              walk_at "sx"
              refine sx_ixTd hv7 n7.h at0 fun u1 hu1 => ?_
              cases Dp.str_v hu1
              walk_at "sx"
              refine ifF (str_eqF hz.2) ?_
              walk_at "sx"
              refine ifT (int_eqT (by rw [l7]; rfl)) ?_
              walk_at "sx"
              simp only [subs, List.map_append, List.map_cons, List.map_nil] at m7f
              rw [show g.map toV ++ [toV (x0.ev env), toV (y0.ev env)] = (g.map toV ++ [toV (x0.ev env)]) ++ [toV (y0.ev env)] by simp] at m7f
              refine sx_pop m7f n7.h fun H8 n8 m8f => ?_
              walk_at "sx"
              walk_at "st"
              walk_at "sx"
              refine sx_ixTd hv7 n8.h at0 fun u2 hu2 => ?_
              cases Dp.str_v hu2
              walk_at "sx"
              refine sx_pop m8f n8.h fun H9 n9 m9f => ?_
              walk_at "sx"
              refine ⟨B6, z, _, _, rfl, n9.h, ty, fun B10 H10 n10 => ?_⟩
              have m10f := m9f.up n10
              walk_at "sx"
              refine sx_append m10f n10.h (by simp only [subs, List.length_map, List.length_cons, List.length_nil] at zz ⊢; omega) fun H11 n11 m11f => ?_
              have n411 := (((n47.loc n8 (by simp [hf0])).loc n9 (by simp [hf0])).tr n10).loc n11 (by simp [hf0])
              refine ⟨(r.map muS).sum, ?_, B10, us, [], r, g ++ [op2 z (x0.ev env) (y0.ev env)], _, _, _, _, _, rfl, rfl, n411, (((m7t.up n8 (by simp [hne])).up n9 (by simp [hne])).up n10).up n11 (by simp [hne]), by simpa using m11f, Dps.up n10.b hus7, fr, h0, ?_⟩
              · exact mlt
              · simp only [subs, List.length_cons, List.length_nil, List.length_append] at zz ⊢
                omega
            | cut z x0 k0 =>
              obtain ⟨rfl, hw, k1, k2, ok1⟩ := ok0
              obtain ⟨w1, w2, w3⟩ := cut_not z hw
              obtain ⟨i, ei, hi⟩ := Tm.ev_ok ok1 (fun s hs => hbd s (fl0 s hs))
              refine ifF (str_eqF w2) ?_
              walk_at "sx"
              refine sx_ixTd hv7 n7.h at0 fun u1 hu1 => ?_
              cases Dp.str_v hu1
              walk_at "sx"
              refine ifF (str_eqF w3) ?_
              walk_at "sx"
              refine ifF (int_eqF (by rw [l7]; show ((1 : Nat) : Int) ≠ 2; decide)) ?_
              walk_at "sx"
              refine sx_ixTd hv7 n7.h at0 fun u2 hu2 => ?_
              cases Dp.str_v hu2
              walk_at "sx"
              refine ifF (str_eqF w1) ?_
              walk_at "sx"
              refine sx_ixTd hv7 n7.h at0 fun u3 hu3 => ?_
              cases Dp.str_v hu3
              walk_at "sx"
              simp only [subs, List.map_append, List.map_cons, List.map_nil, ei] at m7f
              refine sx_pop m7f n7.h fun H8 n8 m8f => ?_
              walk_at "sx"
              refine sx_ixTd (ds := [.str z, x0.d, .int k0]) hv7' n8.h at2 fun u4 hu4 => ?_
              cases Dp.int_v hu4
              walk_at "sx"
              refine ⟨z, i, k0, rfl, hw, k1, k2, Nat.lt_of_lt_of_le hi (pow_mono (by have h : x0.lv ≤ 20000 := lv0; omega)), ?_⟩
              walk_at "sx"
              refine sx_append m8f n8.h (by simp only [subs, List.length_map, List.length_cons, List.length_nil] at zz ⊢; omega) fun H9 n9 m9f => ?_
              have n49 := (n47.loc n8 (by simp [hf0])).loc n9 (by simp [hf0])
              have h0' : Good env r (g ++ [op1 z k0 (.int i)]) [t.ev env] := by rw [← ei]; exact h0
              refine ⟨(r.map muS).sum, ?_, B6, us, [], r, g ++ [op1 z k0 (.int i)], _, _, _, _, _, rfl, rfl, n49, (m7t.up n8 (by simp [hne])).up n9 (by simp [hne]), by simpa using m9f, hus7, fr, h0', ?_⟩
              · exact mlt
              · simp only [subs, List.length_cons, List.length_nil, List.length_append] at zz ⊢
                omega
            | neg x0 =>
              obtain ⟨rfl, ok1⟩ := ok0
              obtain ⟨p, ep⟩ := Tm.ev_ok ok1 (fun s hs => hbd s (fl0 s hs))
              refine ifF (str_eqF (by show ("not" : Str) ≠ "number"; decide +kernel)) ?_
              walk_at "sx"
              refine sx_ixTd hv7 n7.h at0 fun u1 hu1 => ?_
              cases Dp.str_v hu1
              walk_at "sx"
              refine ifF (str_eqF (by show ("not" : Str) ≠ "field"; decide +kernel)) ?_
              walk_at "sx"
              refine ifF (int_eqF (by rw [l7]; show ((1 : Nat) : Int) ≠ 2; decide)) ?_
              walk_at "sx"
              refine sx_ixTd hv7 n7.h at0 fun u2 hu2 => ?_
              cases Dp.str_v hu2
              walk_at "sx"
              refine ifT (str_eqT rfl) ?_
              walk_at "sx"
              simp only [subs, List.map_append, List.map_cons, List.map_nil, ep, toV] at m7f
              refine sx_pop m7f n7.h fun H8 n8 m8f => ?_
              walk_at "sx"
              refine sx_append m8f n8.h (by simp only [subs, List.length_map, List.length_cons, List.length_nil] at zz ⊢; omega) fun H9 n9 m9f => ?_
              have n49 := (n47.loc n8 (by simp [hf0])).loc n9 (by simp [hf0])
              have h0' : Good env r (g ++ [.bool (!p)]) [t.ev env] := by
                have : (Tm.neg x0).ev env = .bool (!p) := by show opN (x0.ev env) = _; rw [ep]; rfl
                rw [← this]; exact h0
              refine ⟨(r.map muS).sum, ?_, B6, us, [], r, g ++ [.bool (!p)], _, _, _, _, _, rfl, rfl, n49, (m7t.up n8 (by simp [hne])).up n9 (by simp [hne]), by simpa [toV] using m9f, hus7, fr, h0', ?_⟩
              · exact mlt
              · simp only [subs, List.length_cons, List.length_nil, List.length_append] at zz ⊢
                omega
    · rintro σ H' ⟨B', y3, y4, y5, y6, y7, y8, rfl, n', m'⟩
      walk_at "sx"
      exact k B' H' n'
end
end C
namespace C
open PySem L2 G
section
variable {P : Program} {w : World} {K : PySem.W.Frag} {mg : Str → Option Value} {base : Heap}
/-! ### worths as drawn -/
theorem merge_env {env : Str → Int} : ∀ (more acc : List (Key × V)), (∀ kv ∈ more, ∃ s, kv = (.inr s, .int (env s))) → ∀ s, (valV acc (.inr s) = some (.int (env s)) ∨ (Sum.inr s, V.int (env s)) ∈ more) → valV (mergeK acc more) (.inr s) = some (.int (env s))
  | [], acc, _, s, h => by
    rcases h with h | h
    · exact h
    · cases h
  | kv :: r, acc, hk, s, h => by
    obtain ⟨s0, rfl⟩ := hk kv (by simp)
    refine merge_env r (putK acc (.inr s0) (.int (env s0))) (fun kv hkv => hk kv (by simp [hkv])) s ?_
    rw [valV_put]
    by_cases z : s = s0
    · subst z
      exact .inl (if_pos rfl)
    · rw [if_neg (fun y => z (Sum.inr.inj y))]
      rcases h with h | h
      · exact .inl h
      · rcases List.mem_cons.mp h with h | h
        · exact absurd (Sum.inr.inj (congrArg Prod.fst h)) z
        · exact .inr h
theorem paired_of {K : PySem.W.Frag} {B : Hp} {env : Str → Int} : ∀ (qs : List (Addr × Str)), (∀ q ∈ qs, SqT K B q.1 [.str q.2, .int (env q.2)]) → Paired (fun p kv => SqT K B p [kV kv.1, kv.2]) (qs.map (·.1)) (qs.map fun q => ((Sum.inr q.2 : Key), V.int (env q.2)))
  | [], _ => .nil
  | q :: r, h => .cons (h q (by simp)) (paired_of r fun x hx => h x (by simp [hx]))
structure WorT (K : PySem.W.Frag) (B : Hp) (p : Addr) (ns : List Str) (env : Str → Int) : Prop where
  ex : ∃ (o : Obj) (qs : List (Addr × Str)), B p = some (.frz o (.tup (qs.map fun q => V.ref q.1))) ∧ TupO o ∧ (∀ q ∈ qs, SqT K B q.1 [.str q.2, .int (env q.2)]) ∧ ∀ s ∈ ns, s ∈ qs.map (·.2)
  bd : ∀ s ∈ ns, (env s).natAbs < 2 ^ 20
theorem WorT.up {K : PySem.W.Frag} {B B' : Hp} {p : Addr} {ns : List Str} {env : Str → Int} (h : WorT K B p ns env) (e : Ex B B') : WorT K B' p ns env := by
  obtain ⟨⟨o, qs, h1, h2, h3, h4⟩, b⟩ := h
  exact ⟨⟨o, qs, e _ _ h1, h2, fun q hq => e.t (h3 q hq), h4⟩, b⟩
theorem env_in {ns : List Str} {env : Str → Int} {qs : List (Addr × Str)} (h4 : ∀ s ∈ ns, s ∈ qs.map (·.2)) : ∀ s ∈ ns, valV (mergeK [] (qs.map fun q => ((Sum.inr q.2 : Key), V.int (env q.2)))) (.inr s) = some (.int (env s)) := fun s hs =>
  merge_env _ [] (fun kv hkv => by
    obtain ⟨q, hq, rfl⟩ := List.mem_map.mp hkv
    exact ⟨_, rfl⟩) s (.inr (by
    obtain ⟨q, hq, rfl⟩ := List.mem_map.mp (h4 s hs)
    exact List.mem_map.mpr ⟨q, hq, rfl⟩))
theorem WorT.wor {K : PySem.W.Frag} {B : Hp} {p : Addr} {ns : List Str} {env : Str → Int} (h : WorT K B p ns env) : Wor K B p ns env := by
  obtain ⟨⟨o, qs, h1, h2, h3, h4⟩, b⟩ := h
  refine ⟨⟨o, qs.map (·.1), _, ?_, h2, paired_of qs h3, env_in h4⟩, b⟩
  rw [List.map_map]
  exact h1
end
end C
namespace C
open PySem L2 G
section
variable {P : Program} {w : World} {K : PySem.W.Frag} {mg : Str → Option Value} {base : Heap}
/-! ### right trees are right data -/
theorem w_ne : ("condition" : Str) ≠ "expression" := by decide +kernel
theorem parts_e {ns : List Str} {w : Str} {ds : List PyData} : partsP ns "expression" w ds = exprP ns w ds := if_pos rfl
theorem parts_c {ns : List Str} {w : Str} {ds : List PyData} : partsP ns "condition" w ds = condP w ds := if_neg w_ne
theorem by_parts {ns : List Str} {s w : Str} {ds ps : List PyData} (h : partsP ns s w ds = some ps) (k : ps.all (rightD ns) = true) : rightD ns (srt s (.tuple (.str w :: ds))) = true := by
  rw [rightD_parts, h]
  exact k
theorem w_two : ∀ w ∈ (["plus", "less", "times", "min", "max"] : List Str), w ∉ (["number", "field"] : List Str) := by decide +kernel
theorem w_cut : ∀ w ∈ (["div", "rest"] : List Str), w ∉ (["number", "field"] : List Str) ∧ w ∉ (["plus", "less", "times", "min", "max"] : List Str) := by decide +kernel
theorem w_cmp : ∀ w ∈ (["same", "below"] : List Str), w ≠ "not" ∧ w ∈ (["same", "below", "and", "or"] : List Str) := by decide +kernel
theorem w_and : ∀ w ∈ (["and", "or"] : List Str), w ≠ "not" ∧ w ∈ (["same", "below", "and", "or"] : List Str) ∧ w ∉ (["same", "below"] : List Str) := by decide +kernel
theorem tm_right {ns : List Str} : ∀ (t : Tm) (c : Bool), t.Ok c → (∀ s ∈ t.flds, s ∈ ns) → rightD ns (srt (if c = true then "condition" else "expression") t.d) = true
  | .num i, c, h, _ => by
    obtain ⟨rfl, _⟩ := h
    refine by_parts (ps := []) ?_ rfl
    rw [if_neg Bool.false_ne_true, parts_e, exprP, if_pos (by decide +kernel)]
    simp [plainP, isIntg, isInt, isBool]
  | .fld s, c, h, hf => by
    have h : c = false := h
    subst h
    refine by_parts (ps := []) ?_ rfl
    rw [if_neg Bool.false_ne_true, parts_e, exprP, if_pos (by decide +kernel)]
    have : ("field" : Str) ≠ "number" := by decide +kernel
    have hs : s ∈ ns := hf s (by simp [Tm.flds])
    show (if ("field" : Str) = "number" then (if isIntg (.str s) then some [] else none) else (if s ∈ ns then some [] else none)) = some []
    rw [if_neg this, if_pos hs]
  | .bin w a b, c, h, hf => by
    have hfa : ∀ s ∈ a.flds, s ∈ ns := fun s hs => hf s (by simp [Tm.flds, hs])
    have hfb : ∀ s ∈ b.flds, s ∈ ns := fun s hs => hf s (by simp [Tm.flds, hs])
    rcases h with ⟨rfl, hw, ha, hb⟩ | ⟨rfl, hw, ha, hb⟩ | ⟨rfl, hw, ha, hb⟩
    · refine by_parts (ps := [srt "expression" a.d, srt "expression" b.d]) ?_ ?_
      · rw [if_neg Bool.false_ne_true, parts_e, exprP, if_neg (w_two w hw), if_pos hw]
        rfl
      · have r1 := tm_right a false ha hfa
        have r2 := tm_right b false hb hfb
        rw [if_neg Bool.false_ne_true] at r1 r2
        simp [r1, r2]
    · refine by_parts (ps := [srt "expression" a.d, srt "expression" b.d]) ?_ ?_
      · rw [if_pos rfl, parts_c, condP, if_neg (w_cmp w hw).1, if_pos (w_cmp w hw).2]
        show (if w ∈ (["same", "below"] : List Str) then some [srt "expression" a.d, srt "expression" b.d] else some [srt "condition" a.d, srt "condition" b.d]) = _
        rw [if_pos hw]
      · have r1 := tm_right a false ha hfa
        have r2 := tm_right b false hb hfb
        rw [if_neg Bool.false_ne_true] at r1 r2
        simp [r1, r2]
    · refine by_parts (ps := [srt "condition" a.d, srt "condition" b.d]) ?_ ?_
      · rw [if_pos rfl, parts_c, condP, if_neg (w_and w hw).1, if_pos (w_and w hw).2.1]
        show (if w ∈ (["same", "below"] : List Str) then some [srt "expression" a.d, srt "expression" b.d] else some [srt "condition" a.d, srt "condition" b.d]) = _
        rw [if_neg (w_and w hw).2.2]
      · have r1 := tm_right a true ha hfa
        have r2 := tm_right b true hb hfb
        rw [if_pos rfl] at r1 r2
        simp [r1, r2]
  | .cut w a n, c, h, hf => by
    obtain ⟨rfl, hw, n0, n1, ha⟩ := h
    refine by_parts (ps := [srt "expression" a.d]) ?_ ?_
    · rw [if_neg Bool.false_ne_true, parts_e, exprP, if_neg (w_cut w hw).1, if_neg (w_cut w hw).2, if_pos hw]
      show (if isPos (.int n) then some [srt "expression" a.d] else none) = _
      have hp : isPos (.int n) = true := decide_eq_true n0
      rw [if_pos hp]
    · have r1 := tm_right a false ha hf
      rw [if_neg Bool.false_ne_true] at r1
      simp [r1]
  | .neg a, c, h, hf => by
    obtain ⟨rfl, ha⟩ := h
    refine by_parts (ps := [srt "condition" a.d]) ?_ ?_
    · rw [if_pos rfl, parts_c, condP, if_pos rfl]
      rfl
    · have r1 := tm_right a true ha hf
      rw [if_pos rfl] at r1
      simp [r1]
theorem Drawn.right {ns : List Str} {t : Tm} (h : Drawn ns t) : rightD ns (srt "expression" t.d) = true := by
  have := tm_right t false h.ok h.fl
  rwa [if_neg Bool.false_ne_true] at this
theorem Tm.szD_le : ∀ t : Tm, szD t.d ≤ 3 * t.size
  | .num i => by simp [Tm.d, szD, szDs, Tm.size]
  | .fld s => by simp [Tm.d, szD, szDs, Tm.size]
  | .bin w a b => by
    have h1 := Tm.szD_le a
    have h2 := Tm.szD_le b
    simp [Tm.d, szD, szDs, Tm.size]
    omega
  | .cut w a n => by
    have h1 := Tm.szD_le a
    simp [Tm.d, szD, szDs, Tm.size]
    omega
  | .neg a => by
    have h1 := Tm.szD_le a
    simp [Tm.d, szD, szDs, Tm.size]
    omega
theorem Tm.mu_le : ∀ t : Tm, t.mu ≤ 3 * t.size
  | .num i => by simp [Tm.mu, Tm.size]
  | .fld s => by simp [Tm.mu, Tm.size]
  | .bin w a b => by
    have h1 := Tm.mu_le a
    have h2 := Tm.mu_le b
    simp [Tm.mu, Tm.size]
    omega
  | .cut w a n => by
    have h1 := Tm.mu_le a
    simp [Tm.mu, Tm.size]
    omega
  | .neg a => by
    have h1 := Tm.mu_le a
    simp [Tm.mu, Tm.size]
    omega
end
end C
namespace C
open PySem L2 G
section
variable {P : Program} {w : World} {K : PySem.W.Frag} {mg : Str → Option Value} {base : Heap}
/-! ### helpers of the laws -/
theorem ifB {A B' C : Prop} {b : Bool} (h : C) (hA : C → A) (hB : C → B') : if b = true then A else B' := by
  cases b
  · exact hB h
  · exact hA h
theorem pair_ok {K : PySem.W.Frag} {B : Hp} {p : Addr} {d : PyData} (h : Dp K B (.ref p) (.tuple [d, d])) (f : flatD d = true) (z : szD d ≤ 50000) : PairOk K B (.ref p) := by
  obtain ⟨a, xs, ea, hs, hd⟩ := Dp.tup_v h
  cases ea
  cases hd with
  | cons h1 t => cases t with
    | cons h2 t => cases t with
      | nil => exact ⟨_, _, _, d, rfl, hs, h1, h2, f, z⟩
theorem drawn_int {ns : List Str} {t : Tm} {env : Str → Int} (h : Drawn ns t) (hb : ∀ s ∈ ns, (env s).natAbs < 2 ^ 20) : ∃ i : Int, t.ev env = .int i := by
  obtain ⟨i, hi, _⟩ := Tm.ev_ok h.ok fun s hs => hb s (h.fl s hs)
  exact ⟨i, hi⟩
theorem rev_wor {K : PySem.W.Frag} {B H : Hp} {p : Addr} {ns : List Str} {env : Str → Int} {Q : VK} (e : Ex B H) (w : WorT K B p ns env) (q : ∀ p' B' H', H p' = none → Nx [] B H B' H' → WorT K B' p' ns env → Q (.ref p') H') : rRevT K (.ref p) H Q := by
  obtain ⟨⟨o, qs, h1, h2, h3, h4⟩, b⟩ := w
  refine ⟨p, _, rfl, e.t (.inl (.inr ⟨o, h1⟩)), fun p' o' hp' to' => ?_⟩
  have n : Nx [] B H (upd B p' (.frz o' (.tup (qs.map fun q => V.ref q.1).reverse))) (upd H p' (.frz o' (.tup (qs.map fun q => V.ref q.1).reverse))) := Nx.new e hp'
  refine q p' _ _ hp' n ⟨⟨o', qs.reverse, ?_, to', fun q hq => n.b.t (h3 q (List.mem_reverse.mp hq)), fun s hs => ?_⟩, b⟩
  · rw [List.map_reverse]
    exact upd_same
  · rw [List.map_reverse]
    exact List.mem_reverse.mpr (h4 s hs)
theorem sx_par3 {i j l : Nat} {ta : TA} {D : Ends} {σ : L2.St} {H : Hp} (q : ta σ H fun vs H1 => ∃ u v w, vs = [u, v, w] ∧ D.nx (((σ.set i (some u)).set j (some v)).set l (some w)) H1) : tPar3 i j l ta D σ H := q
theorem sx_par32 {x y z : V} {Q : V → V → V → Prop} (q : Q x y z) : ∃ u v w, [x, y, z] = [u, v, w] ∧ Q u v w := ⟨x, y, z, rfl, q⟩
theorem sx_chain {r r' : R2} {ta tb tc : TE} {σ : L2.St} {H : Hp} {Q : VK} (q : ta σ H fun x H1 => tb σ H1 fun y H2 => r x y H2 fun z H3 => ∃ k, z = .bl k ∧ (if k = true then tc σ H3 fun w' H4 => r' y w' H4 Q else Q (.bl false) H3)) : tChain r r' ta tb tc σ H Q := q
def env2 (i j : Int) : Str → Int := fun s => if s = "a" then i else j
theorem sq_pair {K : PySem.W.Frag} {B : Hp} {p : Addr} {s : Str} {i : Int} (h : Dp K B (.ref p) (.tuple [.str s, .int i])) : SqT K B p [.str s, .int i] := by
  obtain ⟨a, xs, ea, hs, hd⟩ := Dp.tup_v h
  cases ea
  cases hd with
  | cons h1 t => cases t with
    | cons h2 t => cases t with
      | nil =>
        cases Dp.str_v h1
        cases Dp.int_v h2
        exact hs
theorem new_wor2 {K : PySem.W.Frag} {B H : Hp} {p1 p2 : Addr} {i j : Int} {Q : VK} (e : Ex B H) (h1 : Dp K B (.ref p1) (.tuple [.str "a", .int i])) (h2 : Dp K B (.ref p2) (.tuple [.str "b", .int j])) (hi : i.natAbs < 2 ^ 20) (hj : j.natAbs < 2 ^ 20)
    (q : ∀ p' B' H', H p' = none → Nx [] B H B' H' → WorT K B' p' ["a", "b"] (env2 i j) → Q (.ref p') H') : rNewF [.ref p1, .ref p2] H Q := by
  refine ⟨sz_of (by simp), fun p' o' hp' to' => ?_⟩
  have n : Nx [] B H (upd B p' (.frz o' (.tup [.ref p1, .ref p2]))) (upd H p' (.frz o' (.tup [.ref p1, .ref p2]))) := Nx.new e hp'
  have hb : ("b" : Str) ≠ "a" := by decide +kernel
  have ea : env2 i j "a" = i := if_pos rfl
  have eb : env2 i j "b" = j := if_neg hb
  refine q p' _ _ hp' n ⟨⟨o', [(p1, "a"), (p2, "b")], upd_same, to', fun q hq => ?_, fun s hs => hs⟩, fun s hs => ?_⟩
  · simp only [List.mem_cons, List.not_mem_nil, or_false] at hq
    rcases hq with rfl | rfl
    · show SqT K _ p1 [.str "a", .int (env2 i j "a")]
      rw [ea]
      exact n.b.t (sq_pair h1)
    · show SqT K _ p2 [.str "b", .int (env2 i j "b")]
      rw [eb]
      exact n.b.t (sq_pair h2)
  · simp only [List.mem_cons, List.not_mem_nil, or_false] at hs
    rcases hs with rfl | rfl
    · rw [ea]; exact hi
    · rw [eb]; exact hj
theorem new_wor0 {K : PySem.W.Frag} {B H : Hp} {Q : VK} (e : Ex B H) (q : ∀ p' B' H', H p' = none → Nx [] B H B' H' → WorT K B' p' [] (fun _ => 0) → Q (.ref p') H') : rNewF [] H Q := by
  refine ⟨sz_of (by simp), fun p' o' hp' to' => ?_⟩
  have n : Nx [] B H (upd B p' (.frz o' (.tup []))) (upd H p' (.frz o' (.tup []))) := Nx.new e hp'
  exact q p' _ _ hp' n ⟨⟨o', [], upd_same, to', fun q hq => (by cases hq), fun s hs => (by cases hs)⟩, fun s hs => (by cases hs)⟩
theorem sp_reck {K : PySem.W.Frag} {B H : Hp} {x : V} {p : Addr} {ns : List Str} {env : Str → Int} {d : PyData} {Q : VK} {E : XK} (t : Tm) {c : Bool} (e : Ex B H) (hx : Dp K B x t.d) (w : WorT K B p ns env) (ok : t.Ok c) (hz : t.size ≤ 1000 ∧ t.lv ≤ 1000) (hf : ∀ s ∈ t.flds, s ∈ ns) (hd : t.ev env = d)
    (q : ∀ B' H', Nx [] B H B' H' → Q (toV d) H') : spReck K [x, .ref p] H Q E :=
  ⟨B, x, p, t, c, ns, env, rfl, e, hx, ok, by omega, by omega, hf, w.wor, by rw [hd]; exact q⟩
theorem sp_bin {K : PySem.W.Frag} {B H : Hp} {x : V} {p : Addr} {o1 o2 : Int} {d : PyData} {Q : VK} {E : XK} (z : Str) (hz : z ∈ (["plus", "less", "times", "min", "max"] : List Str)) (e : Ex B H) (hx : Dp K B x (.tuple [.str z, (Tm.fld "a").d, (Tm.fld "b").d])) (w : WorT K B p ["a", "b"] (env2 o1 o2)) (hd : op2 z (.int o1) (.int o2) = d)
    (q : ∀ B' H', Nx [] B H B' H' → Q (toV d) H') : spReck K [x, .ref p] H Q E := by
  have hb : ("b" : Str) ≠ "a" := by decide +kernel
  refine sp_reck (.bin z (.fld "a") (.fld "b")) (c := false) e hx w (.inl ⟨rfl, hz, rfl, rfl⟩) ⟨by simp [Tm.size], by simp [Tm.lv]⟩ (by simp [Tm.flds]) ?_ q
  show op2 z (.int (env2 o1 o2 "a")) (.int (env2 o1 o2 "b")) = d
  rw [show env2 o1 o2 "a" = o1 from if_pos rfl, show env2 o1 o2 "b" = o2 from if_neg hb]
  exact hd
theorem sp_cut {K : PySem.W.Frag} {B H : Hp} {x : V} {p : Addr} {o1 o2 n : Int} {d : PyData} {Q : VK} {E : XK} (z : Str) (hz : z ∈ (["div", "rest"] : List Str)) (h0 : 0 < n) (h1 : n < 1000000) (e : Ex B H) (hx : Dp K B x (.tuple [.str z, (Tm.fld "a").d, .int n])) (w : WorT K B p ["a", "b"] (env2 o1 o2)) (hd : op1 z n (.int o1) = d)
    (q : ∀ B' H', Nx [] B H B' H' → Q (toV d) H') : spReck K [x, .ref p] H Q E := by
  refine sp_reck (.cut z (.fld "a") n) (c := false) e hx w ⟨rfl, hz, h0, h1, rfl⟩ ⟨by simp [Tm.size], by simp [Tm.lv]⟩ (by simp [Tm.flds]) ?_ q
  show op1 z n (.int (env2 o1 o2 "a")) = d
  rw [show env2 o1 o2 "a" = o1 from if_pos rfl]
  exact hd
theorem sp_cut0 {K : PySem.W.Frag} {B H : Hp} {x : V} {p : Addr} {i n : Int} {d : PyData} {Q : VK} {E : XK} (z : Str) (hz : z ∈ (["div", "rest"] : List Str)) (h0 : 0 < n) (h1 : n < 1000000) (hi : i.natAbs < 2 ^ 20) (e : Ex B H) (hx : Dp K B x (.tuple [.str z, .tuple [.str "number", .int i], .int n])) (w : WorT K B p [] (fun _ => 0)) (hd : op1 z n (.int i) = d)
    (q : ∀ B' H', Nx [] B H B' H' → Q (toV d) H') : spReck K [x, .ref p] H Q E :=
  sp_reck (.cut z (.num i) n) (c := false) e hx w ⟨rfl, hz, h0, h1, rfl, hi⟩ ⟨by simp [Tm.size], by simp [Tm.lv]⟩ (by simp [Tm.flds]) hd q
theorem pair_i {K : PySem.W.Frag} {B : Hp} {p : Addr} {i j : Int} (h : Dp K B (.ref p) (.tuple [.int i, .int j])) (z : i = j) : PairOk K B (.ref p) := by
  subst z
  exact pair_ok h rfl (by show 1 ≤ 50000; decide)
theorem pair_b {K : PySem.W.Frag} {B : Hp} {p : Addr} {i j : Bool} (h : Dp K B (.ref p) (.tuple [.bool i, .bool j])) (z : i = j) : PairOk K B (.ref p) := by
  subst z
  exact pair_ok h rfl (by show 1 ≤ 50000; decide)
def Tail (K : PySem.W.Frag) (o1 o2 nm : Int) (n : Nat) (y13 y14 : Option V) (σ : L2.St) (H : Hp) : Prop := ∃ (B : Hp) (L pw pa pb : Addr) (xs : List V) (y0 y1 y3 y4 y6 y7 : Option V), σ = [y0, y1, some (.ref L), y3, y4, some (.ref pw), y6, y7, some (.int o1), some (.int o2), some (.ref pa), some (.ref pb), some (.int nm), y13, y14] ∧ Ex B H ∧ Mu B H L xs ∧ (∀ x ∈ xs, PairOk K B x) ∧ xs.length ≤ n ∧ WorT K B pw ["a", "b"] (env2 o1 o2) ∧ Dp K B (.ref pa) (Tm.fld "a").d ∧ Dp K B (.ref pb) (Tm.fld "b").d
def spLaw (K : PySem.W.Frag) : Sp := fun vs H Q _ => ∃ (a : Addr) (ns : List Int), vs = [.ref a] ∧ SqL K H a (ns.map V.int) ∧ ns.length ≤ 63 ∧ ∀ H', Q (.bl true) H'
end
end C
namespace C
open PySem L2 G
section
variable {P : Program} {w : World} {K : PySem.W.Frag} {mg : Str → Option Value} {base : Heap}
theorem ok_holds (T : Txt w K mg) : Has P w K mg base "holds" s_holds 4 ["condition", "worths"] (spReck K) := by
  refine has_mk T.d_holds sc_holds (fun _ _ _ _ _ _ us hl => match us, hl with | [_, _], _ => rfl) (fun vs H Q E h => ?_) (fun f cdv A outer s H vs Q E hr h => ?_)
  · obtain ⟨_, _, _, _, _, _, _, rfl, _⟩ := h
    rfl
  · obtain ⟨B, x, a, t, c, F, env, rfl, r⟩ := h
    refine ⟨_, (pss_one (ps_ret (pe_callH (ok_reckoned T) hr (by rfl) (pa_cons (pv 0) (pa_cons (pv 1) pa_nil))))), ?_⟩
    walk_at "go"
    exact ⟨B, x, a, t, c, F, env, rfl, r⟩
end
end C
namespace C
open PySem L2 G
section
variable {P : Program} {w : World} {K : PySem.W.Frag} {mg : Str → Option Value} {base : Heap}
theorem ok_is_condition (T : Txt w K mg) : Has P w K mg base "is_condition" s_is_condition 5 ["names", "value"] (spIs K "condition") := by
  refine has_mk T.d_is_condition sc_is_condition (fun _ _ _ _ _ _ us hl => match us, hl with | [_, _], _ => rfl) (fun vs H Q E h => ?_) (fun f cdv A outer s H vs Q E hr h => ?_)
  · obtain ⟨_, _, _, _, _, rfl, _⟩ := h
    rfl
  · obtain ⟨B, a, ns, x, d, rfl, e, hS, hx, hz, k⟩ := h
    refine ⟨_, (pss_one (ps_ret (pe_callH (ok_are_right T) hr (by rfl) (pa_cons (pe_callTy cl_tuple (by rfl) T.b_tuple (by decide +kernel) (pa_cons (pv 0) pa_nil)) (pa_cons (pe_lst (pa_cons (pe_tup (pa_cons (pe_gS (by rfl) T.g_CONDITION) (pa_cons (pv 1) pa_nil))) pa_nil)) pa_nil))))), ?_⟩
    walk_at "go"
    refine sx_tupOfT (e.t hS) ?_
    walk_at "sx"
    refine sx_newT e (.cons (.str _) (.cons hx .nil)) (by simp) fun p1 B1 H1 hp1 n1 t1 => ?_
    walk_at "sx"
    refine sx_newM n1.h (by simp) fun L H2 hL n2 m2 => ?_
    have t1 : Dp K B1 (.ref p1) (srt "condition" d) := t1
    refine ⟨B1, a, L, ns, _, [srt "condition" d], rfl, n2.h, n1.b.t hS, m2, .cons t1 .nil, ?_, ?_, fun B3 H3 n3 => ?_⟩
    · intro p hp
      rw [List.mem_singleton] at hp
      exact ⟨_, _, hp⟩
    · simp [wS, szD_srt]
      omega
    · have := k B3 H3 ((n1.tr n2).loc n3 (by simp [n1.ex.free hL]))
      rw [show [srt "condition" d].all (rightD ns) = rightD ns (srt "condition" d) by simp]
      exact this
end
end C
namespace C
open PySem L2 G
section
variable {P : Program} {w : World} {K : PySem.W.Frag} {mg : Str → Option Value} {base : Heap}
/-! ### tests as drawn -/
structure DrawnC (ns : List Str) (t : Tm) : Prop where
  ok : t.Ok true
  fl : ∀ s ∈ t.flds, s ∈ ns
def spTest (K : PySem.W.Frag) : Sp := fun vs H Q _ => ∃ (B : Hp) (d l a : Addr) (ns : List Str) (j : Nat), vs = [.ref d, .ref a, .int (j : Int)] ∧ Ex B H ∧ Deal B H d l ∧ SqL K H a (ns.map V.str) ∧ a ≠ d ∧ a ≠ l ∧ 0 < ns.length ∧ ns.length < 100 ∧ j ≤ 100 ∧
  ∀ B' H' v t, Nx [d, l] B H B' H' → Deal B' H' d l → Dp K B' v t.d → DrawnC ns t → t.lv ≤ 4 * (j + 1) → t.size ≤ 20 * (j + 1) → Q v H'
theorem cmp_words : ∀ w ∈ (["same", "below"] : List Str), w ∈ (["same", "below"] : List Str) := fun _ h => h
theorem ok_law_test_of (T : Txt w K mg) : Has P w K mg base "_law_test_of" s_law_test_of 5 ["deal", "names", "joins"] (spTest K) := by
  refine has_mk T.d_law_test_of sc_law_test_of (fun _ _ _ _ _ _ us hl => match us, hl with | [_, _, _], _ => rfl) (fun vs H Q E h => ?_) (fun f cdv A outer s H vs Q E hr h => ?_)
  · obtain ⟨_, _, _, _, _, _, rfl, _⟩ := h
    rfl
  · obtain ⟨B, d, l, a, ns, j, rfl, e, hD, hS, ad, al, x0, x1, hj, k⟩ := h
    refine ⟨_, (pss_cons (ps_set (i := 3) sc_law_test_of.nd rfl (.inl rfl) (pe_lst pa_nil))
      (pss_cons (ps_for PassesOwn.never rfl (pi_range1 (by rfl) T.b_range (pa_cons (pe_op op_add (pv 2) pe_int) pa_nil)) (pg_name (i := 4) sc_law_test_of.nd rfl (.inl rfl))
      (pss_cons (ps_set (i := 5) sc_law_test_of.nd rfl (.inl rfl) (pe_tup (pa_cons (pe_callH (ok_law_of T) hr (by rfl) (pa_cons (pv 0) (pa_cons (pe_lst (pa_cons pe_str (pa_cons pe_str pa_nil))) pa_nil))) (pa_cons (pe_callH (ok_law_sum_of T) hr (by rfl) (pa_cons (pv 0) (pa_cons (pv 1) (pa_cons (pe_callH (ok_law_any T) hr (by rfl) (pa_cons (pv 0) (pa_cons pe_int pa_nil))) pa_nil)))) (pa_cons (pe_callH (ok_law_sum_of T) hr (by rfl) (pa_cons (pv 0) (pa_cons (pv 1) (pa_cons (pe_callH (ok_law_any T) hr (by rfl) (pa_cons (pv 0) (pa_cons pe_int pa_nil))) pa_nil)))) pa_nil)))))
      (pss_one (ps_expr (pe_bm PySem.F.plainAttrs_list PySem.F.slot_list_append PySem.F.type_list_append mt_append (pv 3) (pa_cons (pe_ifExp (pt_cmpR op_eq (pe_callH (ok_law_any T) hr (by rfl) (pa_cons (pv 0) (pa_cons pe_int pa_nil))) pe_int (nomark _)) (pe_tup (pa_cons pe_str (pa_cons (pv 5) pa_nil))) (pv 5)) pa_nil))))))
      (pss_cons (ps_for PassesOwn.never rfl (pi_range1 (by rfl) T.b_range (pa_cons (pv 2) pa_nil)) (pg_name (i := 4) sc_law_test_of.nd rfl (.inl rfl))
      (pss_cons (ps_set (i := 6) sc_law_test_of.nd rfl (.inl rfl) (pe_bm PySem.F.plainAttrs_list PySem.F.slot_list_pop PySem.F.type_list_pop mt_popAt (pv 3) (pa_cons (pe_callH (ok_law_any T) hr (by rfl) (pa_cons (pv 0) (pa_cons (pe_callB cl_len (by rfl) T.b_len (by decide +kernel) (pa_cons (pv 3) pa_nil)) pa_nil))) pa_nil)))
      (pss_cons (ps_set (i := 7) sc_law_test_of.nd rfl (.inl rfl) (pe_bm PySem.F.plainAttrs_list PySem.F.slot_list_pop PySem.F.type_list_pop mt_popAt (pv 3) (pa_cons (pe_callH (ok_law_any T) hr (by rfl) (pa_cons (pv 0) (pa_cons (pe_callB cl_len (by rfl) T.b_len (by decide +kernel) (pa_cons (pv 3) pa_nil)) pa_nil))) pa_nil)))
      (pss_cons (ps_set (i := 8) sc_law_test_of.nd rfl (.inl rfl) (pe_tup (pa_cons (pe_callH (ok_law_of T) hr (by rfl) (pa_cons (pv 0) (pa_cons (pe_lst (pa_cons pe_str (pa_cons pe_str pa_nil))) pa_nil))) (pa_cons (pv 6) (pa_cons (pv 7) pa_nil)))))
      (pss_one (ps_expr (pe_bm PySem.F.plainAttrs_list PySem.F.slot_list_append PySem.F.type_list_append mt_append (pv 3) (pa_cons (pe_ifExp (pt_cmpR op_eq (pe_callH (ok_law_any T) hr (by rfl) (pa_cons (pv 0) (pa_cons pe_int pa_nil))) pe_int (nomark _)) (pe_tup (pa_cons pe_str (pa_cons (pv 8) pa_nil))) (pv 8)) pa_nil))))))))
      (pss_one (ps_ret (pe_ix ix_list (pv 3) pe_int (fun _ _ => rfl))))))), ?_⟩
    walk_at "go"
    refine sx_newM e (by simp) fun L H0 hL n0 m0 => ?_
    have offL := hD.off hL
    walk_at "sx"
    walk_at "st"
    walk_at "sx"
    rw [show (j : Int) + 1 = ((j + 1 : Nat) : Int) by omega]
    refine sx_forR_by (by omega) (fun i σ H' => ∃ (B' : Hp) (xs : List V) (ts : List Tm) (y4 y5 y6 y7 y8 : Option V), σ = [some (.ref d), some (.ref a), some (.int (j : Int)), some (.ref L), y4, y5, y6, y7, y8] ∧ Nx [d, l] B H B' H' ∧ Deal B' H' d l ∧ Mu B' H' L xs ∧ DpAll K B' xs (ts.map Tm.d) ∧ ts.length = i ∧ (∀ t ∈ ts, DrawnC ns t) ∧ (ts.map Tm.lv).sum ≤ 4 * i ∧ (ts.map Tm.size).sum ≤ 16 * i) ⟨B, [], [], _, _, _, _, _, rfl, n0.wk (by simp), hD.up n0, m0, .nil, rfl, by simp, by simp, by simp⟩ (fun i σ H2 hi p => ?_) (fun σ H2 p => ?_)
    · obtain ⟨B2, xs, ts, y4, y5, y6, y7, y8, rfl, n2, D2, m2, d2, l2, dr2, v2, z2⟩ := p
      have S2 := n2.sq hS (by simp [ad, al])
      have lx := Dps.len d2
      rw [List.length_map] at lx
      refine sx_gname ?_
      walk_at "st"
      walk_at "sx"
      refine sx_newM n2.h (by simp) fun p3 H3 hp3 n3 m3 => ?_
      have D3 := D2.up n3
      have off3 := D2.off hp3
      refine ⟨B2, d, l, p3, _, rfl, n3.h, D3, m3.sq, off3.1, off3.2, by simp, by simp, fun B4 H4 i4 v4 n4 D4 hv4 => ?_⟩
      have n24 := (Deal.go n2 D2 n3).trans n4 fun b hb _ => D3.in b hb
      obtain ⟨w4, rfl, hw4⟩ : ∃ w : Str, v4 = .str w ∧ w ∈ (["same", "below"] : List Str) := by
        have hm := List.mem_of_getElem? hv4
        simp only [List.mem_cons, List.not_mem_nil, or_false] at hm
        rcases hm with rfl | rfl <;> exact ⟨_, rfl, by decide +kernel⟩
      have m4 := (m2.up n3).up n4 (by simp [offL.1, offL.2])
      walk_at "sx"
      refine ⟨B4, d, l, 2, rfl, n4.h, D4, by omega, by omega, fun B5 H5 r5 n5 D5 r50 r51 => ?_⟩
      have n25 := n24.trans n5 fun b hb _ => D4.in b hb
      have m5 := m4.up n5 (by simp [offL.1, offL.2])
      obtain ⟨q5, rfl⟩ : ∃ q : Nat, r5 = (q : Int) := ⟨r5.toNat, by omega⟩
      walk_at "sx"
      refine ⟨B5, d, l, a, ns, q5, rfl, n5.h, D5, n25.sq hS (by simp [ad, al]), ad, al, x0, x1, by omega, fun B6 H6 va ta n6 D6 dva dra lva zva => ?_⟩
      have n26 := n25.trans n6 fun b hb _ => D5.in b hb
      have m6 := m5.up n6 (by simp [offL.1, offL.2])
      walk_at "sx"
      refine ⟨B6, d, l, 2, rfl, n6.h, D6, by omega, by omega, fun B7 H7 r7 n7 D7 r70 r71 => ?_⟩
      have n27 := n26.trans n7 fun b hb _ => D6.in b hb
      have m7 := m6.up n7 (by simp [offL.1, offL.2])
      obtain ⟨q7, rfl⟩ : ∃ q : Nat, r7 = (q : Int) := ⟨r7.toNat, by omega⟩
      walk_at "sx"
      refine ⟨B7, d, l, a, ns, q7, rfl, n7.h, D7, n27.sq hS (by simp [ad, al]), ad, al, x0, x1, by omega, fun B8 H8 vb tb n8 D8 dvb drb lvb zvb => ?_⟩
      have n28 := n27.trans n8 fun b hb _ => D7.in b hb
      have m8 := m7.up n8 (by simp [offL.1, offL.2])
      walk_at "sx"
      refine sx_newT (K := K) n8.h (.cons (.str _) (.cons (Dp.up (n7.b.trans n8.b) dva) (.cons dvb .nil))) (by simp) fun p9 B9 H9 hp9 n9 d9 => ?_
      have d9 : Dp K B9 (.ref p9) (Tm.bin w4 ta tb).d := d9
      have D9 := D8.up n9
      have n29 := Deal.go n28 D8 n9
      have m9 := m8.up n9
      have dr9 : DrawnC ns (.bin w4 ta tb) := ⟨.inr (.inl ⟨rfl, hw4, dra.ok, drb.ok⟩), fun s hs => by
        simp only [Tm.flds, List.mem_append] at hs
        rcases hs with h | h
        · exact dra.fl s h
        · exact drb.fl s h⟩
      have d9s : DpAll K B9 xs (ts.map Tm.d) := Dps.up (n4.b.trans (n5.b.trans (n6.b.trans (n7.b.trans (n8.b.trans n9.b))))) d2
      walk_at "sx"
      walk_at "st"
      walk_at "sx"
      refine ⟨B9, d, l, 4, rfl, n9.h, D9, by omega, by omega, fun B10 H10 r10 n10 D10 r100 r101 => ?_⟩
      have n210 := n29.trans n10 fun b hb _ => D9.in b hb
      have m10 := m9.up n10 (by simp [offL.1, offL.2])
      walk_at "sx"
      have fin : ∀ (B' H' : Hp) (v x5 : V) (t : Tm), Nx [d, l] B H B' H' → Deal B' H' d l → Mu B' H' L xs → Ex B9 B' → Dp K B' v t.d → DrawnC ns t → t.lv = ta.lv + tb.lv → t.size ≤ ta.size + tb.size + 4 →
          rAppend (.ref L) [v] H' fun _ H1 => ∃ (B' : Hp) (xs : List V) (ts : List Tm) (z4 z5 z6 z7 z8 : Option V), [some (.ref d), some (.ref a), some (.int (j : Int)), some (.ref L), some (.int (i : Int)), some x5, y6, y7, y8] = [some (.ref d), some (.ref a), some (.int (j : Int)), some (.ref L), z4, z5, z6, z7, z8] ∧ Nx [d, l] B H B' H1 ∧ Deal B' H1 d l ∧ Mu B' H1 L xs ∧ DpAll K B' xs (ts.map Tm.d) ∧ ts.length = i + 1 ∧ (∀ t ∈ ts, DrawnC ns t) ∧ (ts.map Tm.lv).sum ≤ 4 * (i + 1) ∧ (ts.map Tm.size).sum ≤ 16 * (i + 1) := by
        intro B' H' v x5 t n' D' m' e' d' dr' lv' sz'
        refine sx_append m' n'.h (by omega) fun H'' n'' m'' => ?_
        refine ⟨B', _, ts ++ [t], _, _, _, _, _, rfl, Deal.go n' D' n'' (by simp [hL]), D'.up n'' (by simp [offL.1.symm, offL.2.symm]), m'', ?_, ?_, ?_, ?_, ?_⟩
        · rw [List.map_append]
          exact Dps.app (Dps.up e' d9s) (.cons d' .nil)
        · rw [List.length_append, List.length_singleton]
          omega
        · intro t' ht
          rcases List.mem_append.mp ht with h | h
          · exact dr2 t' h
          · rw [List.mem_singleton] at h
            rw [h]
            exact dr'
        · rw [List.map_append, List.sum_append]
          simp
          omega
        · rw [List.map_append, List.sum_append]
          simp
          omega
      by_cases h10 : r10 = 0
      · refine ifT (int_eqT h10) ?_
        walk_at "sx"
        refine sx_newT (K := K) n10.h (.cons (.str "not") (.cons (Dp.up n10.b d9) .nil)) (by simp) fun p11 B11 H11 hp11 n11 d11 => ?_
        have d11 : Dp K B11 (.ref p11) (Tm.neg (.bin w4 ta tb)).d := d11
        walk_at "sx"
        refine fin B11 H11 _ _ (.neg (.bin w4 ta tb)) (Deal.go n210 D10 n11) (D10.up n11) (m10.up n11) (n10.b.trans n11.b) d11 ⟨⟨rfl, dr9.ok⟩, dr9.fl⟩ rfl (by simp only [Tm.size]; omega)
      · refine ifF (int_eqF h10) ?_
        walk_at "sx"
        refine fin B10 H10 _ _ (.bin w4 ta tb) n210 D10 m10 n10.b (Dp.up n10.b d9) dr9 rfl (by simp only [Tm.size]; omega)
    · obtain ⟨B2, xs, ts, y4, y5, y6, y7, y8, rfl, n2, D2, m2, d2, l2, dr2, v2, z2⟩ := p
      walk_at "sx"
      refine sx_forR_by (by omega) (fun i σ H' => ∃ (B' : Hp) (xs : List V) (ts : List Tm) (y4 y5 y6 y7 y8 : Option V), σ = [some (.ref d), some (.ref a), some (.int (j : Int)), some (.ref L), y4, y5, y6, y7, y8] ∧ Nx [d, l] B H B' H' ∧ Deal B' H' d l ∧ Mu B' H' L xs ∧ DpAll K B' xs (ts.map Tm.d) ∧ ts.length + i = j + 1 ∧ (∀ t ∈ ts, DrawnC ns t) ∧ (ts.map Tm.lv).sum ≤ 4 * (j + 1) ∧ (ts.map Tm.size).sum ≤ 16 * (j + 1) + 4 * i) ⟨B2, xs, ts, _, _, _, _, _, rfl, n2, D2, m2, d2, by omega, dr2, v2, by omega⟩ (fun i σ H2 hi p => ?_) (fun σ H2 p => ?_)
      · obtain ⟨B2, xs, ts, y4, y5, y6, y7, y8, rfl, n2, D2, m2, d2, l2, dr2, v2, z2⟩ := p
        have lx := Dps.len d2
        rw [List.length_map] at lx
        refine sx_gname ?_
        walk_at "st"
        walk_at "sx"
        refine ⟨B2, d, l, _, rfl, n2.h, D2, by omega, by omega, fun B3 H3 r n3 D3 r0 r1 => ?_⟩
        have n23 := n2.trans n3 fun b hb _ => D2.in b hb
        have m3 := m2.up n3 (by simp [offL.1, offL.2])
        obtain ⟨q, rfl⟩ : ∃ q : Nat, r = (q : Int) := ⟨r.toNat, by omega⟩
        obtain ⟨va, ta, hva, hta, dva⟩ := pick_d d2 (i := q) (by omega)
        walk_at "sx"
        refine sx_popAt m3 n3.h hva (by omega) fun H4 n4 m4 => ?_
        have D4 := D3.up n4 (by simp [offL.1.symm, offL.2.symm])
        have n24 := Deal.go n23 D3 n4 (by simp [hL])
        walk_at "sx"
        walk_at "st"
        walk_at "sx"
        have le1 : (xs.eraseIdx q).length + 1 = xs.length := by rw [List.length_eraseIdx]; split <;> omega
        refine ⟨B3, d, l, _, rfl, n4.h, D4, by omega, by omega, fun B5 H5 r' n5 D5 r0' r1' => ?_⟩
        have n25 := n24.trans n5 fun b hb _ => D4.in b hb
        have m5 := m4.up n5 (by simp [offL.1, offL.2])
        obtain ⟨q', rfl⟩ : ∃ q : Nat, r' = (q : Int) := ⟨r'.toNat, by omega⟩
        have d3 : DpAll K B3 (xs.eraseIdx q) ((ts.eraseIdx q).map Tm.d) := by
          rw [map_erase]
          exact Dps.erase (Dps.up n3.b d2)
        have le2 : (ts.eraseIdx q).length = (xs.eraseIdx q).length := by
          have := Dps.len d3
          rw [List.length_map] at this
          exact this.symm
        obtain ⟨vb, tb, hvb, htb, dvb⟩ := pick_d d3 (i := q') (by omega)
        have dra := dr2 ta (List.mem_of_getElem? hta)
        have drb := dr2 tb (mem_of_erase (List.mem_of_getElem? htb))
        walk_at "sx"
        refine sx_popAt m5 n5.h hvb (by omega) fun H6 n6 m6 => ?_
        have D6 := D5.up n6 (by simp [offL.1.symm, offL.2.symm])
        have n26 := Deal.go n25 D5 n6 (by simp [hL])
        walk_at "sx"
        walk_at "st"
        walk_at "sx"
        refine sx_newM n6.h (by simp) fun p7 H7 hp7 n7 m7 => ?_
        have D7 := D6.up n7
        have off7 := D6.off hp7
        refine ⟨B5, d, l, p7, _, rfl, n7.h, D7, m7.sq, off7.1, off7.2, by simp, by simp, fun B8 H8 i8 v8 n8 D8 hv8 => ?_⟩
        have n28 := (Deal.go n26 D6 n7).trans n8 fun b hb _ => D7.in b hb
        obtain ⟨w8, rfl, hw8⟩ : ∃ w : Str, v8 = .str w ∧ w ∈ (["and", "or"] : List Str) := by
          have hm := List.mem_of_getElem? hv8
          simp only [List.mem_cons, List.not_mem_nil, or_false] at hm
          rcases hm with rfl | rfl <;> exact ⟨_, rfl, by decide +kernel⟩
        have m8 := (m6.up n7).up n8 (by simp [offL.1, offL.2])
        walk_at "sx"
        have dva8 : Dp K B8 va ta.d := Dp.up (n3.b.trans (n5.b.trans n8.b)) dva
        have dvb8 : Dp K B8 vb tb.d := Dp.up (n5.b.trans n8.b) dvb
        refine sx_newT (K := K) n8.h (.cons (.str _) (.cons dva8 (.cons dvb8 .nil))) (by simp) fun p9 B9 H9 hp9 n9 d9 => ?_
        have d9 : Dp K B9 (.ref p9) (Tm.bin w8 ta tb).d := d9
        have D9 := D8.up n9
        have n29 := Deal.go n28 D8 n9
        have m9 := m8.up n9
        have dr9 : DrawnC ns (.bin w8 ta tb) := ⟨.inr (.inr ⟨rfl, hw8, dra.ok, drb.ok⟩), fun s hs => by
          simp only [Tm.flds, List.mem_append] at hs
          rcases hs with h | h
          · exact dra.fl s h
          · exact drb.fl s h⟩
        have lvs : ((((ts.eraseIdx q).eraseIdx q').map Tm.lv).sum + tb.lv) + ta.lv ≤ 4 * (j + 1) := by rw [sum_erase Tm.lv htb, sum_erase Tm.lv hta]; exact v2
        have szs : ((((ts.eraseIdx q).eraseIdx q').map Tm.size).sum + tb.size) + ta.size ≤ 16 * (j + 1) + 4 * i := by rw [sum_erase Tm.size htb, sum_erase Tm.size hta]; exact z2
        have le3 : ((ts.eraseIdx q).eraseIdx q').length + 1 = (ts.eraseIdx q).length := by rw [List.length_eraseIdx]; split <;> omega
        have d6 : DpAll K B9 ((xs.eraseIdx q).eraseIdx q') (((ts.eraseIdx q).eraseIdx q').map Tm.d) := by
          rw [map_erase]
          exact Dps.erase (Dps.up (n5.b.trans (n8.b.trans n9.b)) d3)
        have lx6 := Dps.len d6
        rw [List.length_map] at lx6
        have hmem : ∀ t ∈ (ts.eraseIdx q).eraseIdx q', DrawnC ns t := fun t ht => dr2 t (mem_of_erase (mem_of_erase ht))
        walk_at "sx"
        walk_at "st"
        walk_at "sx"
        refine ⟨B9, d, l, 4, rfl, n9.h, D9, by omega, by omega, fun B10 H10 r10 n10 D10 r100 r101 => ?_⟩
        have n210 := n29.trans n10 fun b hb _ => D9.in b hb
        have m10 := m9.up n10 (by simp [offL.1, offL.2])
        walk_at "sx"
        have fin : ∀ (B' H' : Hp) (v : V) (t : Tm) (y4 y5 y6 y7 y8 : Option V), Nx [d, l] B H B' H' → Deal B' H' d l → Mu B' H' L ((xs.eraseIdx q).eraseIdx q') → Ex B9 B' → Dp K B' v t.d → DrawnC ns t → t.lv = ta.lv + tb.lv → t.size ≤ ta.size + tb.size + 4 →
            rAppend (.ref L) [v] H' fun _ H1 => ∃ (B' : Hp) (xs : List V) (ts : List Tm) (z4 z5 z6 z7 z8 : Option V), [some (.ref d), some (.ref a), some (.int (j : Int)), some (.ref L), y4, y5, y6, y7, y8] = [some (.ref d), some (.ref a), some (.int (j : Int)), some (.ref L), z4, z5, z6, z7, z8] ∧ Nx [d, l] B H B' H1 ∧ Deal B' H1 d l ∧ Mu B' H1 L xs ∧ DpAll K B' xs (ts.map Tm.d) ∧ ts.length + (i + 1) = j + 1 ∧ (∀ t ∈ ts, DrawnC ns t) ∧ (ts.map Tm.lv).sum ≤ 4 * (j + 1) ∧ (ts.map Tm.size).sum ≤ 16 * (j + 1) + 4 * (i + 1) := by
          intro B' H' v t y4 y5 y6 y7 y8 n' D' m' e' d' dr' lv' sz'
          refine sx_append m' n'.h (by omega) fun H'' n'' m'' => ?_
          refine ⟨B', _, (ts.eraseIdx q).eraseIdx q' ++ [t], _, _, _, _, _, rfl, Deal.go n' D' n'' (by simp [hL]), D'.up n'' (by simp [offL.1.symm, offL.2.symm]), m'', ?_, ?_, ?_, ?_, ?_⟩
          · rw [List.map_append]
            exact Dps.app (Dps.up e' d6) (.cons d' .nil)
          · rw [List.length_append, List.length_singleton]
            omega
          · intro t' ht
            rcases List.mem_append.mp ht with h | h
            · exact hmem t' h
            · rw [List.mem_singleton] at h
              rw [h]
              exact dr'
          · rw [List.map_append, List.sum_append]
            simp
            omega
          · rw [List.map_append, List.sum_append]
            simp
            omega
        by_cases h10 : r10 = 0
        · refine ifT (int_eqT h10) ?_
          walk_at "sx"
          refine sx_newT (K := K) n10.h (.cons (.str "not") (.cons (Dp.up n10.b d9) .nil)) (by simp) fun p11 B11 H11 hp11 n11 d11 => ?_
          have d11 : Dp K B11 (.ref p11) (Tm.neg (.bin w8 ta tb)).d := d11
          walk_at "sx"
          refine fin B11 H11 _ (.neg (.bin w8 ta tb)) _ _ _ _ _ (Deal.go n210 D10 n11) (D10.up n11) (m10.up n11) (n10.b.trans n11.b) d11 ⟨⟨rfl, dr9.ok⟩, dr9.fl⟩ rfl (by simp only [Tm.size]; omega)
        · refine ifF (int_eqF h10) ?_
          walk_at "sx"
          refine fin B10 H10 _ (.bin w8 ta tb) _ _ _ _ _ n210 D10 m10 n10.b (Dp.up n10.b d9) dr9 rfl (by simp only [Tm.size]; omega)
      · obtain ⟨B2, xs, ts, y4, y5, y6, y7, y8, rfl, n2, D2, m2, d2, l2, dr2, v2, z2⟩ := p
        obtain ⟨t, rfl⟩ : ∃ t, ts = [t] := List.length_eq_one_iff.mp (by omega)
        walk_at "sx"
        cases d2 with
        | cons h1 h2 =>
          cases h2
          refine sx_ixL m2.sq at0 ?_
          have hsz : t.size ≤ 16 * (j + 1) + 4 * j := by simpa using z2
          exact k B2 H2 _ t n2 D2 h1 (dr2 t (by simp)) (by simpa using v2) (by omega)
end
end C
namespace C
open PySem L2 G
section
variable {P : Program} {w : World} {K : PySem.W.Frag} {mg : Str → Option Value} {base : Heap}
/-! ### the law -/
def n3 : List Str := ["f", "gl", "pm"]
theorem ev_bool {ns : List Str} {t : Tm} {env : Str → Int} (h : DrawnC ns t) (hb : ∀ s ∈ ns, (env s).natAbs < 2 ^ 20) : ∃ p : Bool, t.ev env = .bool p := by
  obtain ⟨p, hp⟩ := Tm.ev_ok h.ok fun s hs => hb s (h.fl s hs)
  exact ⟨p, hp⟩
theorem DrawnC.right {ns : List Str} {t : Tm} (h : DrawnC ns t) : rightD ns (srt "condition" t.d) = true := by
  have := tm_right t true h.ok h.fl
  rwa [if_pos rfl] at this
theorem w_and' : ("and" : Str) ∈ (["and", "or"] : List Str) := by decide +kernel
theorem w_or' : ("or" : Str) ∈ (["and", "or"] : List Str) := by decide +kernel
theorem op_and (p q : Bool) : op2 "and" (.bool p) (.bool q) = .bool (p && q) := rfl
theorem op_or (p q : Bool) : op2 "or" (.bool p) (.bool q) = .bool (p || q) := by
  have : ("or" : Str) ≠ "and" := by decide +kernel
  show (if ("or" : Str) = "and" then PyData.bool (p && q) else PyData.bool (p || q)) = _
  rw [if_neg this]
theorem and_v {i : Nat} {σ : L2.St} {H : Hp} {Q : VK} {q1 q2 : Bool} (hs : σ[i]? = some (some (.bl q2))) (h : Q (.bl (q1 && q2)) H) : if q1 = true then tVar i σ H Q else Q (.bl false) H := by
  cases q1
  · exact h
  · exact sx_var hs h
theorem or_v {i : Nat} {σ : L2.St} {H : Hp} {Q : VK} {q1 q2 : Bool} (hs : σ[i]? = some (some (.bl q2))) (h : Q (.bl (q1 || q2)) H) : if q1 = true then Q (.bl true) H else tVar i σ H Q := by
  cases q1
  · exact sx_var hs h
  · exact h
theorem sp_ab {K : PySem.W.Frag} {B H : Hp} {x : V} {p : Addr} {q : Bool} {Q : VK} {E : XK} (t : Tm) (ok : t.Ok true) (hz : t.size ≤ 1000 ∧ t.lv ≤ 1000) (hf : ∀ s ∈ t.flds, s ∈ (["a", "b"] : List Str)) (e : Ex B H) (hx : Dp K B x t.d) (w : WorT K B p ["a", "b"] (env2 2 3)) (hd : ∀ env : Str → Int, env "a" = 2 → env "b" = 3 → t.ev env = .bool q)
    (k : ∀ B' H', Nx [] B H B' H' → Q (.bl q) H') : spReck K [x, .ref p] H Q E := by
  have hb : ("b" : Str) ≠ "a" := by decide +kernel
  exact sp_reck t e hx w ok hz hf (hd _ (if_pos rfl) (if_neg hb)) k
theorem w_below : ("below" : Str) ∈ (["same", "below"] : List Str) := by decide +kernel
theorem w_same : ("same" : Str) ∈ (["same", "below"] : List Str) := by decide +kernel
theorem w_plus : ("plus" : Str) ∈ (["plus", "less", "times", "min", "max"] : List Str) := by decide +kernel
theorem op_below (i j : Int) : op2 "below" (.int i) (.int j) = .bool (decide (i < j)) := by
  simp only [op2]
  rw [if_neg (by decide +kernel), if_neg (by decide +kernel), if_neg (by decide +kernel), if_neg (by decide +kernel), if_neg (by decide +kernel), if_neg (by decide +kernel)]
theorem op_same (i j : Int) : op2 "same" (.int i) (.int j) = .bool (decide (i = j)) := by
  simp only [op2]
  rw [if_neg (by decide +kernel), if_neg (by decide +kernel), if_neg (by decide +kernel), if_neg (by decide +kernel), if_neg (by decide +kernel), if_pos trivial]
def InLaw (K : PySem.W.Frag) (d l : Addr) (n : Nat) (B H : Hp) (L : Addr) : Prop := ∃ xs : List V, Ex B H ∧ Deal B H d l ∧ Mu B H L xs ∧ (∀ x ∈ xs, PairOk K B x) ∧ xs.length ≤ n ∧ L ≠ d ∧ L ≠ l
theorem ok_law (T : Txt w K mg) : Has P w K mg base "law" s_law 9 ["script"] (spLaw K) := by
  refine has_mk T.d_law sc_law (fun _ _ _ _ _ _ us hl => match us, hl with | [_], _ => rfl) (fun vs H Q E h => ?_) (fun f cdv A outer s H vs Q E hr h => ?_)
  · obtain ⟨_, _, rfl, _⟩ := h
    rfl
  · obtain ⟨a, is, rfl, hS, hz, k⟩ := h
    refine ⟨_, (pss_cons (ps_set (i := 1) sc_law.nd rfl (.inr rfl) (pe_callH (ok_law_deal T) hr (by rfl) (pa_cons (pv 0) (pa_cons pe_int pa_nil))))
      (pss_cons (ps_set (i := 2) sc_law.nd rfl (.inl rfl) (pe_lst pa_nil))
      (G.pss_cut (ps_for PassesOwn.never rfl (pi_range1 (by rfl) T.b_range (pa_cons pe_int pa_nil)) (pg_name (i := 3) sc_law.nd rfl (.inl rfl))
      (pss_cons (ps_set (i := 4) sc_law.nd rfl (.inl rfl) (pe_slice sl_list (pe_lst (pa_cons pe_str (pa_cons pe_str (pa_cons pe_str pa_nil)))) po_none (po_some (pe_op op_add pe_int (pe_callH (ok_law_any T) hr (by rfl) (pa_cons (pv 1) (pa_cons pe_int pa_nil)))))))
      (pss_cons (ps_par (i := 5) (j := 6) (by rfl) sc_law.nd rfl rfl (by decide) rfl rfl (pa_cons (pe_callH (ok_law_test_of T) hr (by rfl) (pa_cons (pv 1) (pa_cons (pv 4) (pa_cons (pe_callH (ok_law_any T) hr (by rfl) (pa_cons (pv 1) (pa_cons pe_int pa_nil))) pa_nil)))) (pa_cons (pe_callH (ok_law_test_of T) hr (by rfl) (pa_cons (pv 1) (pa_cons (pv 4) (pa_cons pe_int pa_nil)))) pa_nil)) (by rfl))
      (pss_cons (ps_for PassesOwn.never rfl (pi_range1 (by rfl) T.b_range (pa_cons pe_int pa_nil)) (pg_name (i := 7) sc_law.nd rfl (.inl rfl))
      (pss_cons (ps_set (i := 8) sc_law.nd rfl (.inl rfl) (pe_callTy cl_tupleF (by rfl) T.b_tuple (by decide +kernel) (pa_cons (pe_lc (own := [("name", 9)]) (g := (gName 9)) rfl sc_law.nd (pi_list (pv 4)) (blkOk_by (own := [("name", 9)]) (N := ["script", "deal", "pairs", "turn", "names", "test", "late", "again", "worths", "name", "one", "other", "both", "some", "a", "b"]) (sc := defScope s_law) (by decide +kernel)) (fun _ _ _ _ _ => pg_name (i := 9) sc_law.nd rfl (.inl rfl)) (fun _ _ _ _ _ => pts_nil) (fun _ _ _ _ _ => (pe_tup (pa_cons (pv 9) (pa_cons (pe_op op_sub (pe_callH (ok_law_any T) hr (by rfl) (pa_cons (pv 1) (pa_cons pe_int pa_nil))) pe_int) pa_nil))))) pa_nil)))
      (pss_cons (ps_par (i := 10) (j := 11) (by rfl) sc_law.nd rfl rfl (by decide) rfl rfl (pa_cons (pe_callH (ok_law_worth_of T) hr (by rfl) (pa_cons (pv 5) (pa_cons (pe_callTy (cl_dictT rfl) (by rfl) T.b_dict (by decide +kernel) (pa_cons (pv 8) pa_nil)) pa_nil))) (pa_cons (pe_callH (ok_law_worth_of T) hr (by rfl) (pa_cons (pv 6) (pa_cons (pe_callTy (cl_dictT rfl) (by rfl) T.b_dict (by decide +kernel) (pa_cons (pv 8) pa_nil)) pa_nil))) pa_nil)) (by rfl))
      (pss_cons (ps_expr (pe_bm PySem.F.plainAttrs_list PySem.F.slot_list_append PySem.F.type_list_append mt_append (pv 2) (pa_cons (pe_tup (pa_cons (pe_ifExp (pt_cmpR op_gt (pv 7) pe_int (nomark _)) (pe_callH (ok_holds T) hr (by rfl) (pa_cons (pv 5) (pa_cons (pv 8) pa_nil))) (pe_callK0H (ok_holds T) (kb_swap (fun _ _ _ _ _ _ _ _ => rfl)) hr (by rfl) (pk_cons (pv 8) (pk_cons (pv 5) pk_nil)))) (pa_cons (pv 10) pa_nil))) pa_nil)))
      (pss_cons (ps_expr (pe_bm PySem.F.plainAttrs_list PySem.F.slot_list_append PySem.F.type_list_append mt_append (pv 2) (pa_cons (pe_tup (pa_cons (pe_callH (ok_holds T) hr (by rfl) (pa_cons (pe_tup (pa_cons pe_str (pa_cons (pv 5) pa_nil))) (pa_cons (pv 8) pa_nil))) (pa_cons (pe_not (pv 10)) pa_nil))) pa_nil)))
      (pss_cons (ps_expr (pe_bm PySem.F.plainAttrs_list PySem.F.slot_list_append PySem.F.type_list_append mt_append (pv 2) (pa_cons (pe_tup (pa_cons (pe_callH (ok_holds T) hr (by rfl) (pa_cons (pe_tup (pa_cons pe_str (pa_cons (pe_tup (pa_cons pe_str (pa_cons (pv 5) pa_nil))) pa_nil))) (pa_cons (pv 8) pa_nil))) (pa_cons (pv 10) pa_nil))) pa_nil)))
      (pss_cons (ps_par (i := 12) (j := 13) (by rfl) sc_law.nd rfl rfl (by decide) rfl rfl (pa_cons (pe_callH (ok_holds T) hr (by rfl) (pa_cons (pe_tup (pa_cons pe_str (pa_cons (pv 5) (pa_cons (pv 6) pa_nil)))) (pa_cons (pv 8) pa_nil))) (pa_cons (pe_callH (ok_holds T) hr (by rfl) (pa_cons (pe_tup (pa_cons pe_str (pa_cons (pv 5) (pa_cons (pv 6) pa_nil)))) (pa_cons (pv 8) pa_nil))) pa_nil)) (by rfl))
      (pss_cons (ps_set (i := 2) sc_law.nd rfl (.inl rfl) (pe_op op_cat (pv 2) (pe_lst (pa_cons (pe_tup (pa_cons (pv 12) (pa_cons (pe_and (pv 10) (pe_one (pv 11))) pa_nil))) (pa_cons (pe_tup (pa_cons (pv 13) (pa_cons (pe_or (pv 10) (pe_one (pv 11))) pa_nil))) pa_nil)))))
      (pss_one (ps_expr (pe_bm PySem.F.plainAttrs_list PySem.F.slot_list_append PySem.F.type_list_append mt_append (pv 2) (pa_cons (pe_tup (pa_cons (pe_callH (ok_holds T) hr (by rfl) (pa_cons (pe_tup (pa_cons pe_str (pa_cons (pe_tup (pa_cons pe_str (pa_cons (pe_tup (pa_cons pe_str (pa_cons (pv 5) pa_nil))) (pa_cons (pe_tup (pa_cons pe_str (pa_cons (pv 6) pa_nil))) pa_nil)))) pa_nil))) (pa_cons (pv 8) pa_nil))) (pa_cons (pe_and (pv 10) (pe_one (pv 11))) pa_nil))) pa_nil))))))))))))
      (pss_one (ps_expr (pe_bm PySem.F.plainAttrs_list PySem.F.slot_list_append PySem.F.type_list_append mt_append (pv 2) (pa_cons (pe_tup (pa_cons (pe_callH (ok_is_condition T) hr (by rfl) (pa_cons (pe_callTy cl_tupleF (by rfl) T.b_tuple (by decide +kernel) (pa_cons (pv 4) pa_nil)) (pa_cons (pv 5) pa_nil))) (pa_cons pe_bl pa_nil))) pa_nil))))))))
      (pss_cons (ps_set (i := 8) sc_law.nd rfl (.inl rfl) (pe_tupF (pa_cons (pe_tup (pa_cons pe_str (pa_cons pe_int pa_nil))) (pa_cons (pe_tup (pa_cons pe_str (pa_cons pe_int pa_nil))) pa_nil))))
      (pss_cons (ps_asg (pe_tup (pa_cons (pe_tup (pa_cons pe_str (pa_cons pe_str pa_nil))) (pa_cons (pe_tup (pa_cons pe_str (pa_cons pe_str pa_nil))) pa_nil))) (pg_tup (by rfl) (pgs_cons (pg_name (i := 14) sc_law.nd rfl (.inl rfl)) (pgs_cons (pg_name (i := 15) sc_law.nd rfl (.inl rfl)) pgs_nil))))
      (G.pss_cut (ps_set (i := 2) sc_law.nd rfl (.inl rfl) (pe_op op_cat (pv 2) (pe_lst (pa_cons (pe_tup (pa_cons (pe_callH (ok_holds T) hr (by rfl) (pa_cons (pe_tup (pa_cons pe_str (pa_cons (pv 14) (pa_cons (pv 15) pa_nil)))) (pa_cons (pv 8) pa_nil))) (pa_cons pe_bl pa_nil))) (pa_cons (pe_tup (pa_cons (pe_callH (ok_holds T) hr (by rfl) (pa_cons (pe_tup (pa_cons pe_str (pa_cons (pv 15) (pa_cons (pv 14) pa_nil)))) (pa_cons (pv 8) pa_nil))) (pa_cons pe_bl pa_nil))) (pa_cons (pe_tup (pa_cons (pe_callH (ok_holds T) hr (by rfl) (pa_cons (pe_tup (pa_cons pe_str (pa_cons (pv 14) (pa_cons (pv 14) pa_nil)))) (pa_cons (pv 8) pa_nil))) (pa_cons pe_bl pa_nil))) pa_nil))))))
      (pss_one (ps_ret (pe_callH (ok_law_all T) hr (by rfl) (pa_cons (pe_op op_cat (pv 2) (pe_lst (pa_cons (pe_tup (pa_cons (pe_callH (ok_holds T) hr (by rfl) (pa_cons (pe_tup (pa_cons pe_str (pa_cons (pe_tup (pa_cons pe_str (pa_cons (pv 14) (pa_cons (pe_tup (pa_cons pe_str (pa_cons pe_int pa_nil))) pa_nil)))) (pa_cons (pv 15) pa_nil)))) (pa_cons (pv 8) pa_nil))) (pa_cons pe_bl pa_nil))) (pa_cons (pe_tup (pa_cons (pe_callH (ok_holds T) hr (by rfl) (pa_cons (pe_tup (pa_cons pe_str (pa_cons (pv 14) (pa_cons (pv 15) pa_nil)))) (pa_cons (pv 8) pa_nil))) (pa_cons pe_bl pa_nil))) pa_nil)))) pa_nil)))))))))), ?_⟩
    walk_at "go"
    refine ⟨fun _ => none, a, is, 2001, rfl, (fun _ _ h => by cases h), hS, hz, by decide, by decide, fun B1 H1 d l n1 D1 => ?_⟩
    walk_at "sx"
    refine sx_newM n1.h (by simp) fun L H2 hL n2 m2 => ?_
    have D2 := D1.up n2
    have off := D1.off hL
    walk_at "sx"
    walk_at "st"
    refine G.sx_cut (fun σ H' => ∃ (B' : Hp) (L : Addr) (y3 y4 y5 y6 y7 y8 y10 y11 y12 y13 : Option V), σ = [some (.ref a), some (.ref d), some (.ref L), y3, y4, y5, y6, y7, y8, none, y10, y11, y12, y13, none, none] ∧ InLaw K d l 266 B' H' L) ?_ ?_
    · walk_at "sx"
      refine sx_forR_by (n := 14) (by omega) (fun i σ H' => ∃ (B' : Hp) (L : Addr) (y3 y4 y5 y6 y7 y8 y10 y11 y12 y13 : Option V), σ = [some (.ref a), some (.ref d), some (.ref L), y3, y4, y5, y6, y7, y8, none, y10, y11, y12, y13, none, none] ∧ InLaw K d l (19 * i) B' H' L) ⟨B1, L, _, _, _, _, _, _, _, _, _, _, rfl, [], n2.h, D2, m2, by simp, by simp, off.1, off.2⟩ (fun i σ H3 hi p => ?_) (fun σ H3 p => p)
      clear off D2 m2 hL n2
      obtain ⟨B3, L, y3, y4, y5, y6, y7, y8, y10, y11, y12, y13, rfl, xs, e3, D3, m3, p3, l3, oL1, oL2⟩ := p
      refine sx_gname ?_
      walk_at "st"
      walk_at "sx"
      refine sx_newM (B := B3) e3 (by simp) fun p4 H4 hp4 n4 m4 => ?_
      have D4 := D3.up n4
      have m4L := m3.up n4
      walk_at "sx"
      refine ⟨B3, d, l, 3, rfl, n4.h, D4, by decide, by decide, fun B5 H5 r n5 D5 r0 r1 => ?_⟩
      have off4 := D3.off hp4
      have m5 := m4.up n5 (by simp [off4.1, off4.2])
      have m5L := m4L.up n5 (by simp [oL1, oL2])
      obtain ⟨j, rfl⟩ : ∃ j : Nat, r = (j : Int) := ⟨r.toNat, by omega⟩
      walk_at "sx"
      refine sx_slL n5.h m5.sq fun p6 H6 hp6 n6 m6 => ?_
      rw [show (1 : Int) + (j : Int) = ((j + 1 : Nat) : Int) by omega, cut_to] at m6
      rw [show ([V.str "f", V.str "gl", V.str "pm"] : List V) = C.n3.map V.str from rfl, ← List.map_take] at m6
      obtain ⟨ns, hns⟩ : ∃ ns, ns = C.n3.take (j + 1) := ⟨_, rfl⟩
      rw [← hns] at m6
      have nsl : 0 < ns.length ∧ ns.length < 100 := by
        rw [hns, List.length_take]
        have : C.n3.length = 3 := rfl
        omega
      have nsn : ns.Nodup := by
        rw [hns]
        exact (List.take_sublist _ _).nodup (by decide +kernel)
      clear hns
      have D6 := D5.up n6
      have off6 := D5.off hp6
      have m6L := m5L.up n6
      have oL6 : p6 ≠ L := m5L.ne hp6
      walk_at "sx"
      walk_at "st"
      walk_at "sx"
      refine ⟨B5, d, l, 2, rfl, n6.h, D6, by decide, by decide, fun B7 H7 r7 n7 D7 r70 r71 => ?_⟩
      have m7 := m6.up n7 (by simp [off6.1, off6.2])
      have m7L := m6L.up n7 (by simp [oL1, oL2])
      obtain ⟨j7, rfl⟩ : ∃ j : Nat, r7 = (j : Int) := ⟨r7.toNat, by omega⟩
      walk_at "sx"
      refine ⟨B7, d, l, p6, ns, j7, rfl, n7.h, D7, m7.sq, off6.1, off6.2, nsl.1, nsl.2, by omega, fun B8 H8 v1 t1 n8 D8 dt1 dr1 lv1 sz1 => ?_⟩
      have m8 := m7.up n8 (by simp [off6.1, off6.2])
      have m8L := m7L.up n8 (by simp [oL1, oL2])
      walk_at "sx"
      refine ⟨B8, d, l, p6, ns, 0, rfl, n8.h, D8, m8.sq, off6.1, off6.2, nsl.1, nsl.2, by omega, fun B9 H9 v2 t2 n9 D9 dt2 dr2 lv2 sz2 => ?_⟩
      have m9 := m8.up n9 (by simp [off6.1, off6.2])
      have m9L := m8L.up n9 (by simp [oL1, oL2])
      have e39 : Ex B3 B9 := n4.b.trans (n5.b.trans (n6.b.trans (n7.b.trans (n8.b.trans n9.b))))
      have dt1' := Dp.up n9.b dt1
      have p9 : ∀ x ∈ xs, PairOk K B9 x := fun x hx => (p3 x hx).up e39
      have e9 := n9.h
      clear e39 p3 m8 m8L m7 m7L m6L m6 m5 m5L m4 m4L n4 n5 n6 n7 n8 n9 dt1 D8 D7 D6 D5 D4 D3 m3 off4
      walk_at "sx"
      walk_at "st"
      walk_at "sx"
      refine sx_forR_by (n := 3) (by omega) (fun i' σ H' => ∃ (B' : Hp) (L : Addr) (y7 y8 y10 y11 y12 y13 : Option V), σ = [some (.ref a), some (.ref d), some (.ref L), some (.int (i : Int)), some (.ref p6), some v1, some v2, y7, y8, none, y10, y11, y12, y13, none, none] ∧ InLaw K d l (19 * i + 6 * i') B' H' L ∧ p6 ≠ L ∧ Mu B' H' p6 (ns.map V.str) ∧ Dp K B' v1 t1.d ∧ Dp K B' v2 t2.d) ⟨B9, L, _, _, _, _, _, _, rfl, ⟨xs, e9, D9, m9L, p9, l3, oL1, oL2⟩, oL6, m9, dt1', dt2⟩ (fun i' σ H3 hi' p => ?_) (fun σ H3 p => ?_)
      · clear dt2 dt1' p9 e9 D9 m9L m9 oL6 oL1 oL2 l3
        obtain ⟨B3, L, y7, y8, y10, y11, y12, y13, rfl, ⟨xs, e3, D3, m3, p3, l3, oL1, oL2⟩, oL6, m6, dt1, dt2⟩ := p
        refine sx_gname ?_
        walk_at "st"
        walk_at "sx"
        refine sx_lcL_by m6.sq (fun C i H' => H3 C = none ∧ ∃ (B' : Hp) (qs : List (Addr × Str)) (env : Str → Int), Nx [d, l] B3 H3 B' H' ∧ Deal B' H' d l ∧ Mu B' H' C (qs.map fun q => V.ref q.1) ∧ (∀ q ∈ qs, SqT K B' q.1 [.str q.2, .int (env q.2)]) ∧ qs.map (·.2) = ns.take i ∧ ∀ s ∈ ns.take i, (env s).natAbs < 2 ^ 20) (fun C hC => ⟨hC, B3, [], fun _ => 0, Nx.own e3 hC, D3.up (Nx.own (M := []) e3 hC), Mu.new e3 hC, by simp, rfl, by simp⟩) (fun C i H' _ p => ?_) (fun C i x H1 hi p => ?_) (fun C H1 p => ?_)
        · obtain ⟨_, B1, qs, env, n1, _⟩ := p
          exact n1.sq m6.sq (by simp [off6.1, off6.2])
        · obtain ⟨hC, B1, qs, env, n1, D1, m1, q1, e1, b1⟩ := p
          rw [List.getElem?_map] at hi
          obtain ⟨s, hs, rfl⟩ : ∃ s, ns[i]? = some s ∧ V.str s = x := by
            cases z : ns[i]? with
            | none => rw [z] at hi; cases hi
            | some s => rw [z] at hi; exact ⟨s, rfl, by simpa using hi⟩
          have hi' := (List.getElem?_eq_some_iff.mp hs).1
          walk_at "st"
          refine G.sx_gname ?_
          walk_at "st"
          refine ⟨trivial, ?_⟩
          walk_at "sx"
          refine iteT ?_
          walk_at "sx"
          refine ⟨B1, d, l, 9, rfl, n1.h, D1, by decide, by decide, fun B2 H2 r n2 D2 r0 r1 => ?_⟩
          have offC := D3.off hC
          have n12 := n1.trans n2 fun b hb _ => D1.in b hb
          have m2 := m1.up n2 (by simp [offC.1, offC.2])
          walk_at "sx"
          refine sx_newT (K := K) n2.h (.cons (.str _) (.cons (.int (r - 3)) .nil)) (by simp) fun p5 B5 H5 hp5 n5 d5 => ?_
          have hs5 := sq_pair d5
          have m5 := m2.up n5
          have D5 := D2.up n5
          have n15 := Deal.go n12 D2 n5
          have lq : qs.length = i := by
            have := congrArg List.length e1
            rw [List.length_map, List.length_take] at this
            omega
          have hnot : ∀ s' ∈ ns.take i, s' ≠ s := by
            intro s' hs' e
            subst e
            have h1 := List.mem_iff_getElem?.mp hs'
            obtain ⟨j', hj'⟩ := h1
            rw [List.getElem?_take] at hj'
            split at hj'
            · have := (List.getElem?_inj (Nat.lt_trans (by assumption) hi') nsn).mp (hj'.trans hs.symm)
              omega
            · cases hj'
          have htk : ns.take (i + 1) = ns.take i ++ [s] := by rw [List.take_add_one, hs]; rfl
          have henv : ∀ s' ∈ ns.take i, (fun x => if x = s then r - 3 else env x) s' = env s' := fun s' h => if_neg (hnot s' h)
          refine sx_lcEnd (P := fun H' => H3 C = none ∧ ∃ (B' : Hp) (qs : List (Addr × Str)) (env : Str → Int), Nx [d, l] B3 H3 B' H' ∧ Deal B' H' d l ∧ Mu B' H' C (qs.map fun q => V.ref q.1) ∧ (∀ q ∈ qs, SqT K B' q.1 [.str q.2, .int (env q.2)]) ∧ qs.map (·.2) = ns.take (i + 1) ∧ ∀ s ∈ ns.take (i + 1), (env s).natAbs < 2 ^ 20) m5 n5.h (by rw [List.length_map]; omega) fun H6 n6 m6 => ⟨hC, B5, qs ++ [(p5, s)], fun x => if x = s then r - 3 else env x, Deal.go n15 D5 n6 (by simp [hC]), D5.up n6 (by simp [offC.1.symm, offC.2.symm]), by simpa using m6, ?_, by rw [List.map_append, e1, htk]; rfl, ?_⟩
          · intro q hq
            rcases List.mem_append.mp hq with h | h
            · rw [henv q.2 (by rw [← e1]; exact List.mem_map_of_mem h)]
              exact (n2.b.trans n5.b).t (q1 q h)
            · rw [List.mem_singleton] at h
              subst h
              show SqT K B5 p5 [.str s, .int (if s = s then r - 3 else env s)]
              rw [if_pos rfl]
              exact hs5
          · intro s' hs'
            rw [htk] at hs'
            rcases List.mem_append.mp hs' with h | h
            · rw [henv s' h]
              exact b1 s' h
            · rw [List.mem_singleton] at h
              subst h
              show (if s' = s' then r - 3 else env s').natAbs < _
              rw [if_pos rfl]
              omega
        · obtain ⟨hC, B1, qs, env, n1, D1, m1, q1, e1, b1⟩ := p
          rw [List.length_map, List.take_length] at e1 b1
          have offC := D3.off hC
          have m1L := m3.up n1 (by simp [oL1, oL2])
          have m1p := m6.up n1 (by simp [off6.1, off6.2])
          walk_at "sx"
          refine ⟨C, _, rfl, m1.sq, fun p o hp to => ?_⟩
          have n4 : Nx [] B1 H1 (upd B1 p (.frz o (.tup (qs.map fun q => V.ref q.1)))) (upd H1 p (.frz o (.tup (qs.map fun q => V.ref q.1)))) := Nx.new n1.h hp
          obtain ⟨B4, hB4⟩ : ∃ B4, B4 = upd B1 p (.frz o (.tup (qs.map fun q => V.ref q.1))) := ⟨_, rfl⟩
          obtain ⟨H4, hH4⟩ : ∃ H4, H4 = upd H1 p (.frz o (.tup (qs.map fun q => V.ref q.1))) := ⟨_, rfl⟩
          have w4 : WorT K B4 p ns env := ⟨⟨o, qs, by rw [hB4]; exact upd_same, to, fun q hq => by rw [hB4]; exact n4.b.t (q1 q hq), fun s hs => by rw [e1]; exact hs⟩, b1⟩
          rw [← hB4, ← hH4] at n4
          rw [← hH4]
          clear hB4 hH4 q1 e1 m1
          have D4 := D1.up n4
          have m4L := m1L.up n4
          have m4p := m1p.up n4
          have e34 : Ex B3 B4 := n1.b.trans n4.b
          have dt14 := Dp.up e34 dt1
          have dt24 := Dp.up e34 dt2
          have p4' : ∀ x ∈ xs, PairOk K B4 x := fun x hx => (p3 x hx).up e34
          have e4 := n4.h
          clear n4 n1 D1 m1L m1p p3 dt1 dt2 e34 D3 m3 m6 e3 hp hC offC
          walk_at "sx"
          walk_at "st"
          walk_at "sx"
          obtain ⟨q1, hq1⟩ := ev_bool dr1 w4.bd
          obtain ⟨q2, hq2⟩ := ev_bool dr2 w4.bd
          have mu1 := t1.mu_le
          have mu2 := t2.mu_le
          have sd1 := t1.szD_le
          have z1 : t1.size ≤ 40 ∧ t1.lv ≤ 8 := ⟨by omega, by omega⟩
          have z2 : t2.size ≤ 40 ∧ t2.lv ≤ 8 := ⟨by omega, by omega⟩
          obtain ⟨⟨o, ps, kvs, b1', b2, b3, b4⟩, hbd⟩ := w4.wor
          refine sx_dictT e4 b1' b2 b3 fun pd B5 H5 hpd n5 dd => ?_
          walk_at "sx"
          refine ⟨B5, v1, pd, t1, true, ns, env, _, rfl, n5.h, Dp.up n5.b dt14, dr1.ok, by omega, by omega, dr1.fl, dd, b4, w4.bd, fun B6 H6 n6 => ?_⟩
          rw [hq1, show toV (.bool q1) = V.bl q1 from rfl]
          have n46 := n5.tr n6
          walk_at "sx"
          refine sx_dictT n6.h (n46.b _ _ b1') b2 (Paired.mapP b3 fun _ _ z => n46.b.t z) fun pd B7 H7 hpd n7 dd => ?_
          walk_at "sx"
          refine ⟨B7, v2, pd, t2, true, ns, env, _, rfl, n7.h, Dp.up (n46.b.trans n7.b) dt24, dr2.ok, by omega, by omega, dr2.fl, dd, b4, w4.bd, fun B8 H8 n8 => ?_⟩
          rw [hq2, show toV (.bool q2) = V.bl q2 from rfl]
          have n48 := (n46.tr n7).tr n8
          have D8 := D4.up n48
          have m8L := m4L.up n48
          have m8p := m4p.up n48
          have w8 := w4.up n48.b
          have dt1 := Dp.up n48.b dt14
          have dt2 := Dp.up n48.b dt24
          have p8 : ∀ x ∈ xs, PairOk K B8 x := fun x hx => (p4' x hx).up n48.b
          have e8 := n8.h
          clear n8 dd n7 n46 n6 n5 hpd b1' b2 b3 b4 n48 w4 e4 p4' dt14 dt24 m4p m4L D4 hbd mu1 mu2
          walk_at "sx"
          walk_at "st"
          walk_at "sx"
          refine ifB (C := ?C) ?h (fun h => ?a) (fun h => ?b)
          case a =>
            walk_at "sx"
            exact h
          case b =>
            walk_at "sx"
            exact h
          refine sp_reck t1 e8 dt1 w8 dr1.ok ⟨by omega, by omega⟩ dr1.fl hq1 fun B9 H9 n9 => ?_
          rw [show toV (.bool q1) = V.bl q1 from rfl]
          walk_at "sx"
          refine sx_newT (K := K) n9.h (.cons (.bl q1) (.cons (.bl q1) .nil)) (by simp) fun p10 B10 H10 _ n10 d10 => ?_
          have k10 := pair_b d10 rfl
          have n810 := n9.tr n10
          walk_at "sx"
          have m10L := m8L.up n810
          refine sx_append m10L n10.h (by omega) fun H11 n11 m11L => ?_
          have n811 : Nx [L] B8 H8 B10 H11 := (n810.wk (by simp)).trans n11 fun b hb hn => by
            rw [List.mem_singleton] at hb
            rw [hb, m10L.h]
            exact fun z => nomatch z
          have D11 := D8.up n811 (by simp [oL1.symm, oL2.symm])
          have m11p := m8p.up n811 (by simp [oL6])
          walk_at "sx"
          -- not
          have dn1 := Dp.up n811.b dt1
          refine sx_newT n11.h (.cons (.str "not") (.cons dn1 .nil)) (by simp) fun p12 B12 H12 _ n12 d12 => ?_
          have d12 : Dp K B12 (.ref p12) (Tm.neg t1).d := d12
          walk_at "sx"
          have hn1 : (Tm.neg t1).ev env = .bool (!q1) := by
            show opN (t1.ev env) = _
            rw [hq1]
            rfl
          refine sp_reck (.neg t1) n12.h d12 (w8.up (n811.b.trans n12.b)) (c := true) ⟨rfl, dr1.ok⟩ ⟨by simp only [Tm.size]; omega, by simp only [Tm.lv]; omega⟩ dr1.fl hn1 fun B13 H13 n13 => ?_
          rw [show toV (.bool (!q1)) = V.bl (!q1) from rfl]
          walk_at "sx"
          refine sx_newT (K := K) n13.h (.cons (.bl (!q1)) (.cons (.bl (!q1)) .nil)) (by simp) fun p14 B14 H14 _ n14 d14 => ?_
          have k14 := pair_b d14 rfl
          have n1114 := (n12.tr n13).tr n14
          have m14L := m11L.up n1114
          walk_at "sx"
          refine sx_append m14L n14.h (by simp; omega) fun H15 n15 m15L => ?_
          have n1115 : Nx [L] B10 H11 B14 H15 := (n1114.wk (by simp)).trans n15 fun b hb hn => by
            rw [List.mem_singleton] at hb
            rw [hb, m14L.h]
            exact fun z => nomatch z
          have D15 := D11.up n1115 (by simp [oL1.symm, oL2.symm])
          have m15p := m11p.up n1115 (by simp [oL6])
          walk_at "sx"
          -- not not
          refine sx_newT n15.h (.cons (.str "not") (.cons (Dp.up (n811.b.trans n1115.b) dt1) .nil)) (by simp) fun p16 B16 H16 _ n16 d16 => ?_
          walk_at "sx"
          refine sx_newT n16.h (.cons (.str "not") (.cons d16 .nil)) (by simp) fun p17 B17 H17 _ n17 d17 => ?_
          have d17 : Dp K B17 (.ref p17) (Tm.neg (.neg t1)).d := d17
          walk_at "sx"
          have hn2 : (Tm.neg (.neg t1)).ev env = .bool q1 := by
            show opN ((Tm.neg t1).ev env) = _
            rw [hn1]
            show PyData.bool (!(!q1)) = _
            rw [Bool.not_not]
          have n1517 := n16.tr n17
          refine sp_reck (.neg (.neg t1)) n17.h d17 (w8.up (n811.b.trans (n1115.b.trans n1517.b))) (c := true) ⟨rfl, rfl, dr1.ok⟩ ⟨by simp only [Tm.size]; omega, by simp only [Tm.lv]; omega⟩ dr1.fl hn2 fun B18 H18 n18 => ?_
          rw [show toV (.bool q1) = V.bl q1 from rfl]
          walk_at "sx"
          refine sx_newT (K := K) n18.h (.cons (.bl q1) (.cons (.bl q1) .nil)) (by simp) fun p19 B19 H19 _ n19 d19 => ?_
          have k19 := pair_b d19 rfl
          have n1519 := (n1517.tr n18).tr n19
          have m19L := m15L.up n1519
          walk_at "sx"
          refine sx_append m19L n19.h (by simp; omega) fun H20 n20 m20L => ?_
          have n1520 : Nx [L] B14 H15 B19 H20 := (n1519.wk (by simp)).trans n20 fun b hb hn => by
            rw [List.mem_singleton] at hb
            rw [hb, m19L.h]
            exact fun z => nomatch z
          have D20 := D15.up n1520 (by simp [oL1.symm, oL2.symm])
          have m20p := m15p.up n1520 (by simp [oL6])
          have e820 : Ex B8 B19 := n811.b.trans (n1115.b.trans n1520.b)
          have dt1b := Dp.up e820 dt1
          have dt2b := Dp.up e820 dt2
          have w20 := w8.up e820
          have p20 : ∀ x ∈ (xs ++ [V.ref p10] ++ [V.ref p14]) ++ [V.ref p19], PairOk K B19 x := fun x hx => by
            simp only [List.mem_append, List.mem_singleton] at hx
            rcases hx with ((hx | rfl) | rfl) | rfl
            · exact (p8 x hx).up e820
            · exact k10.up (n1115.b.trans n1520.b)
            · exact k14.up n1520.b
            · exact k19
          have l20 : ((xs ++ [V.ref p10] ++ [V.ref p14]) ++ [V.ref p19]).length = xs.length + 3 := by simp
          generalize (xs ++ [V.ref p10] ++ [V.ref p14]) ++ [V.ref p19] = xs20 at m20L p20 l20
          have e20 := n20.h
          clear n20 n1520 n1519 n19 n18 n1517 n17 n16 n1115 n15 n1114 n14 n13 n12 n811 n11 n810 n10 n9 m10L m14L m19L m11L m15L m8L m11p m15p m8p D8 D11 D15 k10 k14 k19 d10 d14 d19 d12 d16 d17 dn1 e820 dt1 dt2 w8 e8 p8 hn2
          walk_at "sx"
          -- and, or
          refine sx_newT e20 (.cons (.str "and") (.cons dt1b (.cons dt2b .nil))) (by simp) fun p21 B21 H21 _ n21 d21 => ?_
          have d21 : Dp K B21 (.ref p21) (Tm.bin "and" t1 t2).d := d21
          walk_at "sx"
          have ha : (Tm.bin "and" t1 t2).ev env = .bool (q1 && q2) := by
            show op2 "and" (t1.ev env) (t2.ev env) = _
            rw [hq1, hq2]
            exact op_and q1 q2
          have ho : (Tm.bin "or" t1 t2).ev env = .bool (q1 || q2) := by
            show op2 "or" (t1.ev env) (t2.ev env) = _
            rw [hq1, hq2]
            exact op_or q1 q2
          have fl12 : ∀ s ∈ t1.flds ++ t2.flds, s ∈ ns := fun s hs => (List.mem_append.mp hs).elim (dr1.fl s) (dr2.fl s)
          refine sp_reck (.bin "and" t1 t2) n21.h d21 (w20.up n21.b) (c := true) (.inr (.inr ⟨rfl, w_and', dr1.ok, dr2.ok⟩)) ⟨by simp only [Tm.size]; omega, by simp only [Tm.lv]; omega⟩ fl12 ha fun B22 H22 n22 => ?_
          rw [show toV (.bool (q1 && q2)) = V.bl (q1 && q2) from rfl]
          have n2022 := n21.tr n22
          walk_at "sx"
          refine sx_newT n22.h (.cons (.str "or") (.cons (Dp.up n2022.b dt1b) (.cons (Dp.up n2022.b dt2b) .nil))) (by simp) fun p23 B23 H23 _ n23 d23 => ?_
          have d23 : Dp K B23 (.ref p23) (Tm.bin "or" t1 t2).d := d23
          walk_at "sx"
          refine sp_reck (.bin "or" t1 t2) n23.h d23 (w20.up (n2022.b.trans n23.b)) (c := true) (.inr (.inr ⟨rfl, w_or', dr1.ok, dr2.ok⟩)) ⟨by simp only [Tm.size]; omega, by simp only [Tm.lv]; omega⟩ fl12 ho fun B24 H24 n24 => ?_
          rw [show toV (.bool (q1 || q2)) = V.bl (q1 || q2) from rfl]
          have n2024 := (n2022.tr n23).tr n24
          walk_at "sx"
          walk_at "st"
          walk_at "sx"
          refine and_v rfl ?_
          walk_at "sx"
          refine sx_newT (K := K) n24.h (.cons (.bl _) (.cons (.bl (q1 && q2)) .nil)) (by simp) fun p25 B25 H25 _ n25 d25 => ?_
          have k25 := pair_b d25 rfl
          walk_at "sx"
          refine or_v rfl ?_
          walk_at "sx"
          refine sx_newT (K := K) n25.h (.cons (.bl _) (.cons (.bl (q1 || q2)) .nil)) (by simp) fun p26 B26 H26 _ n26 d26 => ?_
          have k26 := pair_b d26 rfl
          walk_at "sx"
          refine sx_newM n26.h (by simp) fun p27 H27 _ n27 m27 => ?_
          walk_at "sx"
          have n2027 := ((n2024.tr n25).tr n26).tr n27
          have mL := m20L.up n2027
          refine sx_cat n27.h mL.h m27.h (by simp; omega) fun L2 H28 hL2 n28 m28L => ?_
          have n2028 := n2027.tr n28
          have D28 := D20.up n2028
          have m28p := m20p.up n2028
          have off28 := (D20.up n2027).off hL2
          have oL28 : p6 ≠ L2 := (m20p.up n2027).ne' hL2
          have dt1c := Dp.up n2028.b dt1b
          have dt2c := Dp.up n2028.b dt2b
          have w28 := w20.up n2028.b
          have p28 : ∀ x ∈ xs20 ++ [V.ref p25, V.ref p26], PairOk K B26 x := fun x hx => by
            simp only [List.mem_append, List.mem_cons, List.not_mem_nil, or_false] at hx
            rcases hx with hx | rfl | rfl
            · exact (p20 x hx).up n2028.b
            · exact k25.up n26.b
            · exact k26
          have l28 : (xs20 ++ [V.ref p25, V.ref p26]).length = xs20.length + 2 := by simp
          generalize xs20 ++ [V.ref p25, V.ref p26] = xs28 at m28L p28 l28
          have e28 := n28.h
          clear n2028 n28 mL n2027 n27 m27 n26 n25 k25 k26 d25 d26 n2024 n2022 n24 n23 n22 n21 d21 d23 m20L m20p D20 dt1b dt2b w20 p20 e20
          walk_at "sx"
          walk_at "st"
          walk_at "sx"
          refine sx_newT e28 (.cons (.str "not") (.cons dt1c .nil)) (by simp) fun p29 B29 H29 _ n29 d29 => ?_
          walk_at "sx"
          refine sx_newT n29.h (.cons (.str "not") (.cons (Dp.up n29.b dt2c) .nil)) (by simp) fun p30 B30 H30 _ n30 d30 => ?_
          walk_at "sx"
          refine sx_newT n30.h (.cons (.str "or") (.cons (Dp.up n30.b d29) (.cons d30 .nil))) (by simp) fun p31 B31 H31 _ n31 d31 => ?_
          walk_at "sx"
          refine sx_newT n31.h (.cons (.str "not") (.cons d31 .nil)) (by simp) fun p32 B32 H32 _ n32 d32 => ?_
          have d32 : Dp K B32 (.ref p32) (Tm.neg (.bin "or" (.neg t1) (.neg t2))).d := d32
          have n2832 := ((n29.tr n30).tr n31).tr n32
          walk_at "sx"
          have hdm : (Tm.neg (.bin "or" (.neg t1) (.neg t2))).ev env = .bool (q1 && q2) := by
            show opN (op2 "or" (opN (t1.ev env)) (opN (t2.ev env))) = _
            rw [hq1, hq2]
            show opN (op2 "or" (.bool (!q1)) (.bool (!q2))) = _
            rw [op_or]
            show PyData.bool (!(!q1 || !q2)) = _
            cases q1 <;> cases q2 <;> rfl
          refine sp_reck (.neg (.bin "or" (.neg t1) (.neg t2))) n32.h d32 (w28.up n2832.b) (c := true) ⟨rfl, .inr (.inr ⟨rfl, w_or', ⟨rfl, dr1.ok⟩, ⟨rfl, dr2.ok⟩⟩)⟩ ⟨by simp only [Tm.size]; omega, by simp only [Tm.lv]; omega⟩ fl12 hdm fun B33 H33 n33 => ?_
          rw [show toV (.bool (q1 && q2)) = V.bl (q1 && q2) from rfl]
          walk_at "sx"
          refine and_v rfl ?_
          walk_at "sx"
          refine sx_newT (K := K) n33.h (.cons (.bl _) (.cons (.bl (q1 && q2)) .nil)) (by simp) fun p34 B34 H34 _ n34 d34 => ?_
          have k34 := pair_b d34 rfl
          have n2834 := (n2832.tr n33).tr n34
          have m34L := m28L.up n2834
          walk_at "sx"
          refine sx_append m34L n34.h (by omega) fun H35 n35 m35L => ?_
          have n2835 : Nx [L2] B26 H28 B34 H35 := (n2834.wk (by simp)).trans n35 fun b hb hn => by
            rw [List.mem_singleton] at hb
            rw [hb, m34L.h]
            exact fun z => nomatch z
          refine ⟨B34, L2, _, _, _, _, _, _, rfl, ⟨_, n35.h, D28.up n2835 (by simp [off28.1.symm, off28.2.symm]), m35L, ?_, by simp; omega, off28.1, off28.2⟩, oL28, m28p.up n2835 (by simp [oL28]), Dp.up n2835.b dt1c, Dp.up n2835.b dt2c⟩
          intro x hx
          simp only [List.mem_append, List.mem_singleton] at hx
          rcases hx with hx | rfl
          · exact (p28 x hx).up n2835.b
          · exact k34
      · clear dt2 dt1' p9 e9 D9 m9L m9 oL6 oL1 oL2 l3
        obtain ⟨B3, L, y7, y8, y10, y11, y12, y13, rfl, ⟨xs, e3, D3, m3, p3, l3, oL1, oL2⟩, oL6, m6, dt1, dt2⟩ := p
        walk_at "sx"
        refine ⟨p6, _, rfl, m6.sq, fun p20 o20 hp20 to20 => ?_⟩
        have n20 : Nx [] B3 H3 (upd B3 p20 (.frz o20 (.tup (ns.map V.str)))) (upd H3 p20 (.frz o20 (.tup (ns.map V.str)))) := Nx.new e3 hp20
        walk_at "sx"
        have dt20 := Dp.up n20.b dt1
        have szd := t1.szD_le
        refine ⟨_, p20, ns, v1, t1.d, rfl, n20.h, .inl (.inr ⟨o20, upd_same⟩), dt20, by omega, fun B21 H21 n21 => ?_⟩
        rw [dr1.right]
        walk_at "sx"
        refine sx_newT (K := K) (B := B21) n21.h (.cons (.bl true) (.cons (.bl true) .nil)) (by simp) fun p22 B22 H22 hp22 n22 d22 => ?_
        have n202 := (n20.tr n21).tr n22
        have m22L := m3.up n202
        have D22 := D3.up n202
        have ok22 := pair_b d22 rfl
        walk_at "sx"
        refine sx_append m22L n22.h (by omega) fun H23 n23 m23L => ?_
        have D23 := D22.up n23 (by simp [oL1.symm, oL2.symm])
        refine ⟨B22, L, _, _, _, _, _, _, _, _, _, _, rfl, _, n23.h, D23, m23L, ?_, by simp; omega, oL1, oL2⟩
        intro x hx
        simp only [List.mem_append, List.mem_singleton] at hx
        rcases hx with hx | rfl
        · exact (p3 x hx).up n202.b
        · exact ok22
    · rintro σ H3 ⟨B3, L, y3, y4, y5, y6, y7, y8, y10, y11, y12, y13, rfl, xs, e3, D3, m3, p3, l3, oL1, oL2⟩
      walk_at "sx"
      refine sx_newT (K := K) e3 (.cons (.str "a") (.cons (.int 2) .nil)) (by simp) fun p6 B6 H6 hp6 n6 d6 => ?_
      walk_at "sx"
      refine sx_newT (K := K) n6.h (.cons (.str "b") (.cons (.int 3) .nil)) (by simp) fun p7 B7 H7 hp7 n7 d7 => ?_
      walk_at "sx"
      refine new_wor2 n7.h (Dp.up n7.b d6) d7 (by decide) (by decide) fun pw B8 H8 hpw n8 w8 => ?_
      walk_at "sx"
      walk_at "st"
      walk_at "sx"
      refine sx_newT (K := K) n8.h (.cons (.str "field") (.cons (.str "a") .nil)) (by simp) fun pa B9 H9 hp9 n9 d9 => ?_
      walk_at "sx"
      refine sx_newT (K := K) n9.h (.cons (.str "field") (.cons (.str "b") .nil)) (by simp) fun pb B10 H10 hp10 n10 d10 => ?_
      walk_at "sx"
      refine sx_newT (K := K) n10.h (.cons (Dp.up n10.b d9) (.cons d10 .nil)) (by simp) fun pc B11 H11 hp11 n11 d11 => ?_
      walk_at "sx"
      refine sx_gtup2 d11 n11.h fun va vb dva dvb => ?_
      walk_at "st"
      have n311 := ((((n6.tr n7).tr n8).tr n9).tr n10).tr n11
      have m11 := m3.up n311
      have p11 : ∀ x ∈ xs, PairOk K B11 x := fun x hx => (p3 x hx).up n311.b
      have w11 := w8.up (n9.b.trans (n10.b.trans n11.b))
      have e11 := n11.h
      clear n311 n11 n10 n9 n8 n7 n6 d6 d7 d9 d10 d11 w8 m3 p3 D3 e3
      refine G.sx_cut (fun σ H' => ∃ (B' : Hp) (L : Addr) (xs : List V) (y3 y4 y5 y6 y7 y10 y11 y12 y13 : Option V), σ = [some (.ref a), some (.ref d), some (.ref L), y3, y4, y5, y6, y7, some (.ref pw), none, y10, y11, y12, y13, some va, some vb] ∧ Ex B' H' ∧ Mu B' H' L xs ∧ (∀ x ∈ xs, PairOk K B' x) ∧ xs.length ≤ 269 ∧ WorT K B' pw ["a", "b"] (env2 2 3) ∧ Dp K B' va (Tm.fld "a").d ∧ Dp K B' vb (Tm.fld "b").d) ?_ ?_
      · have n0 : Nx [] B11 H11 B11 H11 := Nx.refl e11
        have n00 := n0
        have w := w11
        have da : Dp K B11 va (Tm.fld "a").d := dva
        have db : Dp K B11 vb (Tm.fld "b").d := dvb
        walk_at "sx"
        refine sx_newT n0.h (.cons (.str "below") (.cons (Dp.up n00.b da) (.cons (Dp.up n00.b db) .nil))) (by simp) fun q0 B1 H1 _ n1 d1 => ?_
        walk_at "sx"
        refine sp_ab (q := true) (.bin "below" (.fld "a") (.fld "b")) (.inr (.inl ⟨rfl, w_below, rfl, rfl⟩)) ⟨by simp [Tm.size], by simp [Tm.lv]⟩ (by simp [Tm.flds]) n1.h d1 (w.up (n00.b.trans n1.b)) (fun env ha hb => by
          show op2 "below" (.int (env "a")) (.int (env "b")) = _
          rw [ha, hb, op_below]
          rfl) fun B2 H2 n2 => ?_
        walk_at "sx"
        refine sx_newT (K := K) n2.h (.cons (.bl true) (.cons (.bl true) .nil)) (by simp) fun p3 B3 H3 _ n3 d3 => ?_
        have k3 := pair_b d3 rfl
        have n03 := (n1.tr n2).tr n3
        have n03 := n00.tr n03
        walk_at "sx"
        refine sx_newT n3.h (.cons (.str "below") (.cons (Dp.up n03.b db) (.cons (Dp.up n03.b da) .nil))) (by simp) fun q3 B4 H4 _ n4 d4 => ?_
        walk_at "sx"
        refine sp_ab (q := false) (.bin "below" (.fld "b") (.fld "a")) (.inr (.inl ⟨rfl, w_below, rfl, rfl⟩)) ⟨by simp [Tm.size], by simp [Tm.lv]⟩ (by simp [Tm.flds]) n4.h d4 (w.up (n03.b.trans n4.b)) (fun env ha hb => by
          show op2 "below" (.int (env "b")) (.int (env "a")) = _
          rw [hb, ha, op_below]
          rfl) fun B5 H5 n5 => ?_
        walk_at "sx"
        refine sx_newT (K := K) n5.h (.cons (.bl false) (.cons (.bl false) .nil)) (by simp) fun p6 B6 H6 _ n6 d6 => ?_
        have k6 := pair_b d6 rfl
        have n36 := (n4.tr n5).tr n6
        have n06 := n03.tr n36
        walk_at "sx"
        refine sx_newT n6.h (.cons (.str "below") (.cons (Dp.up n06.b da) (.cons (Dp.up n06.b da) .nil))) (by simp) fun q6 B7 H7 _ n7 d7 => ?_
        walk_at "sx"
        refine sp_ab (q := false) (.bin "below" (.fld "a") (.fld "a")) (.inr (.inl ⟨rfl, w_below, rfl, rfl⟩)) ⟨by simp [Tm.size], by simp [Tm.lv]⟩ (by simp [Tm.flds]) n7.h d7 (w.up (n06.b.trans n7.b)) (fun env ha hb => by
          show op2 "below" (.int (env "a")) (.int (env "a")) = _
          rw [ha, op_below]
          rfl) fun B8 H8 n8 => ?_
        walk_at "sx"
        refine sx_newT (K := K) n8.h (.cons (.bl false) (.cons (.bl false) .nil)) (by simp) fun p9 B9 H9 _ n9 d9 => ?_
        have k9 := pair_b d9 rfl
        have n69 := (n7.tr n8).tr n9
        have n09 := n06.tr n69
        walk_at "sx"
        refine sx_newM n9.h (by simp) fun p30 H30 _ n30 m30 => ?_
        walk_at "sx"
        have mL := (m11.up n09).up n30
        refine sx_cat n30.h mL.h m30.h (by simp; omega) fun p31 H31 _ n31 m31 => ?_
        walk_at "sx"
        walk_at "st"
        have n031 := (n09.tr n30).tr n31
        refine ⟨B9, p31, _, _, _, _, _, _, _, _, _, _, rfl, n31.h, m31, ?_, by simp; omega, w.up n031.b, Dp.up n031.b da, Dp.up n031.b db⟩
        intro x hx
        simp only [List.mem_append, List.mem_cons, List.not_mem_nil, or_false] at hx
        rcases hx with hx | rfl | rfl | rfl
        · exact (p11 x hx).up n031.b
        · exact k3.up (n36.b.trans n69.b)
        · exact k6.up n69.b
        · exact k9
      · clear m11 p11 w11 e11 dva dvb
        rintro σ H0 ⟨B0, L, xs, y3, y4, y5, y6, y7, y10, y11, y12, y13, rfl, e, m, hp, hl, w, da, db⟩
        walk_at "sx"
        refine sx_newT (K := K) e (.cons (.str "number") (.cons (.int 1) .nil)) (by simp) fun q1 B1 H1 _ n1 d1 => ?_
        walk_at "sx"
        refine sx_newT n1.h (.cons (.str "plus") (.cons (Dp.up n1.b da) (.cons d1 .nil))) (by simp) fun q2 B2 H2 _ n2 d2 => ?_
        walk_at "sx"
        have n02 := n1.tr n2
        refine sx_newT n2.h (.cons (.str "same") (.cons d2 (.cons (Dp.up n02.b db) .nil))) (by simp) fun q3 B3 H3 _ n3 d3 => ?_
        walk_at "sx"
        have n03' := n02.tr n3
        have hk1 : (1 : Int).natAbs < 2 ^ 20 := by decide
        refine sp_ab (q := true) (.bin "same" (.bin "plus" (.fld "a") (.num 1)) (.fld "b")) (.inr (.inl ⟨rfl, w_same, .inl ⟨rfl, w_plus, rfl, ⟨rfl, hk1⟩⟩, rfl⟩)) ⟨by simp [Tm.size], by simp [Tm.lv]⟩ (by simp [Tm.flds]) n3.h d3 (w.up n03'.b) (fun env ha hb => by
          show op2 "same" (op2 "plus" (.int (env "a")) (.int 1)) (.int (env "b")) = _
          rw [ha, hb, op2_plus, op_same]
          rfl) fun B4 H4 n4 => ?_
        walk_at "sx"
        refine sx_newT (K := K) n4.h (.cons (.bl true) (.cons (.bl true) .nil)) (by simp) fun p5 B5 H5 _ n5 d5 => ?_
        have k5 := pair_b d5 rfl
        have n05 := (n03'.tr n4).tr n5
        walk_at "sx"
        refine sx_newT n5.h (.cons (.str "same") (.cons (Dp.up n05.b da) (.cons (Dp.up n05.b db) .nil))) (by simp) fun q5 B6 H6 _ n6 d6 => ?_
        walk_at "sx"
        refine sp_ab (q := false) (.bin "same" (.fld "a") (.fld "b")) (.inr (.inl ⟨rfl, w_same, rfl, rfl⟩)) ⟨by simp [Tm.size], by simp [Tm.lv]⟩ (by simp [Tm.flds]) n6.h d6 (w.up (n05.b.trans n6.b)) (fun env ha hb => by
          show op2 "same" (.int (env "a")) (.int (env "b")) = _
          rw [ha, hb, op_same]
          rfl) fun B7 H7 n7 => ?_
        walk_at "sx"
        refine sx_newT (K := K) n7.h (.cons (.bl false) (.cons (.bl false) .nil)) (by simp) fun p8 B8 H8 _ n8 d8 => ?_
        have k8 := pair_b d8 rfl
        have n58 := (n6.tr n7).tr n8
        have n08 := n05.tr n58
        walk_at "sx"
        refine sx_newM n8.h (by simp) fun p30 H30 _ n30 m30 => ?_
        walk_at "sx"
        have mL := (m.up n08).up n30
        refine sx_cat n30.h mL.h m30.h (by simp; omega) fun p31 H31 _ n31 m31 => ?_
        walk_at "sx"
        refine ⟨B8, p31, _, rfl, n31.h, m31.sq, by simp; omega, fun x hx => ?_, k⟩
        simp only [List.mem_append, List.mem_cons, List.not_mem_nil, or_false] at hx
        rcases hx with hx | rfl | rfl
        · exact (hp x hx).up n08.b
        · exact k5.up n58.b
        · exact k8
end
end C
namespace G
open PySem PySem.Spec PyProof.Rows L2
section
variable {K : PySem.W.Frag} {h : Heap} {mg : Str → Option Value}
/-- a def of the top as the head has it -/
theorem df_mk {x : Str} {st : Stmt} {f : Addr} {oc : Value} {od an : Option Addr} {osl : Array (Option Value)} {kV doc pm cdv ct : Value} (X : K.In h) (G : h.Ns mainGlobals mg) (a : PySem.W.nsIn K mainGlobals x = some (some (.ref f)))
    (l : K.lookup f = some ⟨oc, od, .func (PySem.W.fnOf x x (defArgs st) (defBody st) (defScope st) .none kV doc pm an cdv ct), osl⟩) (c : PySem.W.codeIn K cdv x = true) (k : PySem.W.keepIn K (.ref f) = true) : Df K mg x st :=
  ⟨f, _, fun_mk l c k, PySem.W.mg_of X G a⟩
theorem gs_mk {x z : Str} {t : Tok} (X : K.In h) (G : h.Ns mainGlobals mg) (a : PySem.W.nsIn K mainGlobals x = some (some (.str z t))) : ∃ t, mg x = some (.str z t) := ⟨t, PySem.W.mg_of X G a⟩
theorem gi_mk {x : Str} {z : Int} {t : Tok} (X : K.In h) (G : h.Ns mainGlobals mg) (a : PySem.W.nsIn K mainGlobals x = some (some (.int z t))) : ∃ t, mg x = some (.int z t) := ⟨t, PySem.W.mg_of X G a⟩
theorem gt_mk {x : Str} {a : Addr} {xs : List V} {dd : Option Addr} {its : List Value} {n : Nat} {sl : Array (Option Value)} (X : K.In h) (G : h.Ns mainGlobals mg) (e : PySem.W.nsIn K mainGlobals x = some (some (.ref a)))
    (l : K.lookup a = some ⟨.type "tuple", dd, .seq its.toArray n, sl⟩) (hv : Vals xs its) (hz : its.length ≤ 1000) : ∃ a, mg x = some (.ref a) ∧ ∀ H', SqT K H' a xs :=
  ⟨a, PySem.W.mg_of X G e, fun H' => .inr ⟨_, its.toArray, n, l, rfl, rfl, Nat.le_trans (by simpa using hz) (by decide : 1000 ≤ sizeLine), by simpa using hv⟩⟩
/-- a dict of the top, texts to defs -/
theorem kf_mk {w : World} {k x : Str} {a f : Addr} {es : List DictEntry} {n : Nat} (X : K.In h) (G : h.Ns mainGlobals mg) (l : K.lookup a = some ⟨.type "dict", none, .dict es.toArray n, #[]⟩) (hk : PySem.W.KeysLit w.params es)
    (e : PySem.W.nsIn K a k = some (some (.ref f))) (g : PySem.W.nsIn K mainGlobals x = some (some (.ref f))) : KFn K w mg a k x := ⟨f, PySem.W.mg_of X G g, es.toArray, n, .ref f, l, hk, e, rfl⟩
theorem kf_nil {w : World} {a : Addr} : ∀ q ∈ ([] : List (Str × Str)), KFn K w mg a q.1 q.2 := fun _ h => nomatch h
theorem kf_cons {w : World} {a : Addr} {k x : Str} {r : List (Str × Str)} (h : KFn K w mg a k x) (t : ∀ q ∈ r, KFn K w mg a q.1 q.2) : ∀ q ∈ (k, x) :: r, KFn K w mg a q.1 q.2 := fun q hq => by
  rcases List.mem_cons.mp hq with z | z
  · rw [z]; exact h
  · exact t q z
theorem gd_mk {w : World} {x : Str} {a : Addr} {ps : List (Str × Str)} (X : K.In h) (G : h.Ns mainGlobals mg) (e : PySem.W.nsIn K mainGlobals x = some (some (.ref a))) (t : ∀ q ∈ ps, KFn K w mg a q.1 q.2) : ∃ a, mg x = some (.ref a) ∧ ∀ q ∈ ps, KFn K w mg a q.1 q.2 := ⟨a, PySem.W.mg_of X G e, t⟩
/-- the law's own def -/
theorem law_mk {P : Program} {w : World} {st : Stmt} {k : Nat} {sp : Sp} {fa : Addr} (D : Df K mg "law" st) (hfa : mg "law" = some (.ref fa))
    (hb : ∀ (kV doc pm : Value) (an : Option Addr) (cdv ct : Value) (u : Value), bindArgs (PySem.W.fnOf "law" "law" (defArgs st) (defBody st) (defScope st) .none kV doc pm an cdv ct) ⟨[u], []⟩ = pure [(("script" : Str), u)])
    (H : ∀ base : Heap, Has P w K mg base "law" st k ["script"] sp) : ∃ fd : FuncData, (∀ (s : Shared) (v : Value), BindsTo s fd ⟨[v], []⟩ [("script", v)]) ∧ ∀ base : Heap, K.In base → base.Ns mainGlobals mg → FnOk P w K mg base CX0 k fa fd ["script"] sp := by
  obtain ⟨f, fd, F, m⟩ := D
  rw [hfa] at m
  have e : fa = f := by injection m with m; injection m
  subst e
  refine ⟨fd, fun s v => ?_, fun base _ _ => ?_⟩
  · obtain ⟨oc, od, kV, doc, pm, an, cdv, ct, osl, rfl, lk, hcd⟩ := F.ex
    exact .of_eq (hb _ _ _ _ _ _ _)
  · obtain ⟨f2, fd2, F2, m2, n2, _⟩ := (H base).ex
    rw [hfa] at m2
    have e2 : fa = f2 := by injection m2 with m2; injection m2
    subst e2
    obtain ⟨_, _, _, _, _, _, _, _, _, e3, lk, _⟩ := F.ex
    obtain ⟨_, _, _, _, _, _, _, _, _, e4, lk2, _⟩ := n2.ex
    rw [lk] at lk2
    have : fd = fd2 := by injection lk2 with z; injection z with _ _ z _; injection z
    rw [this]
    exact F2
end
end G
namespace C
open PySem L2 G
theorem law_end {P : Program} {w : World} {K : PySem.W.Frag} {mg : Str → Option Value} {fa : Addr} (hfa : mg "law" = some (.ref fa)) (T : Txt w K mg) : ∃ fd : FuncData, (∀ (s : Shared) (v : Value), BindsTo s fd ⟨[v], []⟩ [("script", v)]) ∧ ∀ base : Heap, K.In base → base.Ns mainGlobals mg → FnOk P w K mg base CX0 9 fa fd ["script"] (spLaw K) := law_mk T.d_law hfa (fun _ _ _ _ _ _ _ => rfl) (fun base => ok_law T)
end C
open PySem PySem.W PyProof.Rows
set_option maxRecDepth 100000 in
set_option maxHeartbeats 0 in
theorem PySem.Challenge.cw_typedback_k01_whether_conditions_hold_holds : PySem.Challenge.rw_typedback_k01_whether_conditions_hold.Holds := by
  w_on; o_law; k_head; (case hw => w_witness2)
  k_fill
  refine L2.walk_of (l := PySem.Challenge.rw_typedback_k01_whether_conditions_hold) (n := 63) (k := 9) (x := "script") (CX := fun _ => L2.CX0) (sp := fun w => C.spLaw _) rfl (by decide) rfl ⟨rfl, by decide, by decide⟩ (fun w h Y => PySem.W.kIn_of Y) ?F (fun _ _ a ns hl _ hS => ⟨a, ns, rfl, hS, hl, fun _ => rfl⟩) (fun _ _ _ _ _ h => h)
  case F =>
    intro w mg fa h KX GM hmg
    refine' C.law_end hmg ?T
    case T =>
      constructor
      · refine' G.df_mk KX GM ?a ?l ?c ?k; (case a => k_is); (case l => k_is); (case c => k_is); (case k => k_is)
      · refine' G.df_mk KX GM ?a ?l ?c ?k; (case a => k_is); (case l => k_is); (case c => k_is); (case k => k_is)
      · refine' G.df_mk KX GM ?a ?l ?c ?k; (case a => k_is); (case l => k_is); (case c => k_is); (case k => k_is)
      · refine' G.df_mk KX GM ?a ?l ?c ?k; (case a => k_is); (case l => k_is); (case c => k_is); (case k => k_is)
      · refine' G.df_mk KX GM ?a ?l ?c ?k; (case a => k_is); (case l => k_is); (case c => k_is); (case k => k_is)
      · refine' G.df_mk KX GM ?a ?l ?c ?k; (case a => k_is); (case l => k_is); (case c => k_is); (case k => k_is)
      · refine' G.df_mk KX GM ?a ?l ?c ?k; (case a => k_is); (case l => k_is); (case c => k_is); (case k => k_is)
      · refine' G.df_mk KX GM ?a ?l ?c ?k; (case a => k_is); (case l => k_is); (case c => k_is); (case k => k_is)
      · refine' G.df_mk KX GM ?a ?l ?c ?k; (case a => k_is); (case l => k_is); (case c => k_is); (case k => k_is)
      · refine' G.df_mk KX GM ?a ?l ?c ?k; (case a => k_is); (case l => k_is); (case c => k_is); (case k => k_is)
      · refine' G.df_mk KX GM ?a ?l ?c ?k; (case a => k_is); (case l => k_is); (case c => k_is); (case k => k_is)
      · refine' G.df_mk KX GM ?a ?l ?c ?k; (case a => k_is); (case l => k_is); (case c => k_is); (case k => k_is)
      · refine' G.df_mk KX GM ?a ?l ?c ?k; (case a => k_is); (case l => k_is); (case c => k_is); (case k => k_is)
      · refine' G.df_mk KX GM ?a ?l ?c ?k; (case a => k_is); (case l => k_is); (case c => k_is); (case k => k_is)
      · refine' G.df_mk KX GM ?a ?l ?c ?k; (case a => k_is); (case l => k_is); (case c => k_is); (case k => k_is)
      · refine' G.df_mk KX GM ?a ?l ?c ?k; (case a => k_is); (case l => k_is); (case c => k_is); (case k => k_is)
      · refine' G.df_mk KX GM ?a ?l ?c ?k; (case a => k_is); (case l => k_is); (case c => k_is); (case k => k_is)
      · refine' G.df_mk KX GM ?a ?l ?c ?k; (case a => k_is); (case l => k_is); (case c => k_is); (case k => k_is)
      · refine' G.df_mk KX GM ?a ?l ?c ?k; (case a => k_is); (case l => k_is); (case c => k_is); (case k => k_is)
      · refine' G.df_mk KX GM ?a ?l ?c ?k; (case a => k_is); (case l => k_is); (case c => k_is); (case k => k_is)
      · refine' G.df_mk KX GM ?a ?l ?c ?k; (case a => k_is); (case l => k_is); (case c => k_is); (case k => k_is)
      · refine' G.df_mk KX GM ?a ?l ?c ?k; (case a => k_is); (case l => k_is); (case c => k_is); (case k => k_is)
      · refine' G.df_mk KX GM ?a ?l ?c ?k; (case a => k_is); (case l => k_is); (case c => k_is); (case k => k_is)
      · refine' G.df_mk KX GM ?a ?l ?c ?k; (case a => k_is); (case l => k_is); (case c => k_is); (case k => k_is)
      · refine' G.df_mk KX GM ?a ?l ?c ?k; (case a => k_is); (case l => k_is); (case c => k_is); (case k => k_is)
      · refine' G.df_mk KX GM ?a ?l ?c ?k; (case a => k_is); (case l => k_is); (case c => k_is); (case k => k_is)
      · refine' G.df_mk KX GM ?a ?l ?c ?k; (case a => k_is); (case l => k_is); (case c => k_is); (case k => k_is)
      · refine' G.df_mk KX GM ?a ?l ?c ?k; (case a => k_is); (case l => k_is); (case c => k_is); (case k => k_is)
      · refine' G.df_mk KX GM ?a ?l ?c ?k; (case a => k_is); (case l => k_is); (case c => k_is); (case k => k_is)
      · refine' G.df_mk KX GM ?a ?l ?c ?k; (case a => k_is); (case l => k_is); (case c => k_is); (case k => k_is)
      · refine' G.df_mk KX GM ?a ?l ?c ?k; (case a => k_is); (case l => k_is); (case c => k_is); (case k => k_is)
      · refine' G.df_mk KX GM ?a ?l ?c ?k; (case a => k_is); (case l => k_is); (case c => k_is); (case k => k_is)
      · refine' G.df_mk KX GM ?a ?l ?c ?k; (case a => k_is); (case l => k_is); (case c => k_is); (case k => k_is)
      · refine' G.df_mk KX GM ?a ?l ?c ?k; (case a => k_is); (case l => k_is); (case c => k_is); (case k => k_is)
      · refine' G.df_mk KX GM ?a ?l ?c ?k; (case a => k_is); (case l => k_is); (case c => k_is); (case k => k_is)
      · exact PySem.W.mg_none_of KX GM (by k_is)
      · exact PySem.W.mg_none_of KX GM (by k_is)
      · exact PySem.W.mg_none_of KX GM (by k_is)
      · exact PySem.W.mg_none_of KX GM (by k_is)
      · exact PySem.W.mg_none_of KX GM (by k_is)
      · exact PySem.W.mg_none_of KX GM (by k_is)
      · exact PySem.W.mg_none_of KX GM (by k_is)
      · exact PySem.W.mg_none_of KX GM (by k_is)
      · exact PySem.W.mg_none_of KX GM (by k_is)
      · exact PySem.W.mg_none_of KX GM (by k_is)
      · exact PySem.W.mg_none_of KX GM (by k_is)
      · exact PySem.W.mg_none_of KX GM (by k_is)
      · exact PySem.W.mg_none_of KX GM (by k_is)
      · refine' G.gs_mk KX GM ?a; (case a => k_is)
      · refine' G.gs_mk KX GM ?a; (case a => k_is)
      · refine' G.gt_mk KX GM ?a ?l ?v ?z; (case a => k_is); (case l => k_is); (case v => exact (.cons ⟨_, rfl⟩ (.cons ⟨_, rfl⟩ (.cons ⟨_, rfl⟩ (.cons ⟨_, rfl⟩ (.cons ⟨_, rfl⟩ .nil)))))); (case z => decide)
      · refine' G.gt_mk KX GM ?a ?l ?v ?z; (case a => k_is); (case l => k_is); (case v => exact (.cons ⟨_, rfl⟩ (.cons ⟨_, rfl⟩ .nil))); (case z => decide)
      · refine' G.gt_mk KX GM ?a ?l ?v ?z; (case a => k_is); (case l => k_is); (case v => exact (.cons ⟨_, rfl⟩ (.cons ⟨_, rfl⟩ .nil))); (case z => decide)
      · refine' G.gt_mk KX GM ?a ?l ?v ?z; (case a => k_is); (case l => k_is); (case v => exact (.cons ⟨_, rfl⟩ (.cons ⟨_, rfl⟩ .nil))); (case z => decide)
      · refine' G.gs_mk KX GM ?a; (case a => k_is)
      · refine' G.gs_mk KX GM ?a; (case a => k_is)
      · refine' G.gs_mk KX GM ?a; (case a => k_is)
      · refine' G.gs_mk KX GM ?a; (case a => k_is)
      · refine' G.gd_mk KX GM ?a ?t
        case a => k_is
        case t =>
          refine' G.kf_cons (G.kf_mk KX GM ?l ?k ?e ?g) ?_; (case l => k_is); (case k => exact ⟨⟨_, _, rfl, rfl⟩, ⟨_, _, rfl, rfl⟩, ⟨_, _, rfl, rfl⟩, ⟨_, _, rfl, rfl⟩, ⟨_, _, rfl, rfl⟩, ⟨_, _, rfl, rfl⟩, ⟨_, _, rfl, rfl⟩, ⟨_, _, rfl, rfl⟩, ⟨_, _, rfl, rfl⟩, trivial⟩); (case e => k_is); (case g => k_is)
          refine' G.kf_cons (G.kf_mk KX GM ?l ?k ?e ?g) ?_; (case l => k_is); (case k => exact ⟨⟨_, _, rfl, rfl⟩, ⟨_, _, rfl, rfl⟩, ⟨_, _, rfl, rfl⟩, ⟨_, _, rfl, rfl⟩, ⟨_, _, rfl, rfl⟩, ⟨_, _, rfl, rfl⟩, ⟨_, _, rfl, rfl⟩, ⟨_, _, rfl, rfl⟩, ⟨_, _, rfl, rfl⟩, trivial⟩); (case e => k_is); (case g => k_is)
          refine' G.kf_cons (G.kf_mk KX GM ?l ?k ?e ?g) ?_; (case l => k_is); (case k => exact ⟨⟨_, _, rfl, rfl⟩, ⟨_, _, rfl, rfl⟩, ⟨_, _, rfl, rfl⟩, ⟨_, _, rfl, rfl⟩, ⟨_, _, rfl, rfl⟩, ⟨_, _, rfl, rfl⟩, ⟨_, _, rfl, rfl⟩, ⟨_, _, rfl, rfl⟩, ⟨_, _, rfl, rfl⟩, trivial⟩); (case e => k_is); (case g => k_is)
          refine' G.kf_cons (G.kf_mk KX GM ?l ?k ?e ?g) ?_; (case l => k_is); (case k => exact ⟨⟨_, _, rfl, rfl⟩, ⟨_, _, rfl, rfl⟩, ⟨_, _, rfl, rfl⟩, ⟨_, _, rfl, rfl⟩, ⟨_, _, rfl, rfl⟩, ⟨_, _, rfl, rfl⟩, ⟨_, _, rfl, rfl⟩, ⟨_, _, rfl, rfl⟩, ⟨_, _, rfl, rfl⟩, trivial⟩); (case e => k_is); (case g => k_is)
          refine' G.kf_cons (G.kf_mk KX GM ?l ?k ?e ?g) ?_; (case l => k_is); (case k => exact ⟨⟨_, _, rfl, rfl⟩, ⟨_, _, rfl, rfl⟩, ⟨_, _, rfl, rfl⟩, ⟨_, _, rfl, rfl⟩, ⟨_, _, rfl, rfl⟩, ⟨_, _, rfl, rfl⟩, ⟨_, _, rfl, rfl⟩, ⟨_, _, rfl, rfl⟩, ⟨_, _, rfl, rfl⟩, trivial⟩); (case e => k_is); (case g => k_is)
          refine' G.kf_cons (G.kf_mk KX GM ?l ?k ?e ?g) ?_; (case l => k_is); (case k => exact ⟨⟨_, _, rfl, rfl⟩, ⟨_, _, rfl, rfl⟩, ⟨_, _, rfl, rfl⟩, ⟨_, _, rfl, rfl⟩, ⟨_, _, rfl, rfl⟩, ⟨_, _, rfl, rfl⟩, ⟨_, _, rfl, rfl⟩, ⟨_, _, rfl, rfl⟩, ⟨_, _, rfl, rfl⟩, trivial⟩); (case e => k_is); (case g => k_is)
          refine' G.kf_cons (G.kf_mk KX GM ?l ?k ?e ?g) ?_; (case l => k_is); (case k => exact ⟨⟨_, _, rfl, rfl⟩, ⟨_, _, rfl, rfl⟩, ⟨_, _, rfl, rfl⟩, ⟨_, _, rfl, rfl⟩, ⟨_, _, rfl, rfl⟩, ⟨_, _, rfl, rfl⟩, ⟨_, _, rfl, rfl⟩, ⟨_, _, rfl, rfl⟩, ⟨_, _, rfl, rfl⟩, trivial⟩); (case e => k_is); (case g => k_is)
          refine' G.kf_cons (G.kf_mk KX GM ?l ?k ?e ?g) ?_; (case l => k_is); (case k => exact ⟨⟨_, _, rfl, rfl⟩, ⟨_, _, rfl, rfl⟩, ⟨_, _, rfl, rfl⟩, ⟨_, _, rfl, rfl⟩, ⟨_, _, rfl, rfl⟩, ⟨_, _, rfl, rfl⟩, ⟨_, _, rfl, rfl⟩, ⟨_, _, rfl, rfl⟩, ⟨_, _, rfl, rfl⟩, trivial⟩); (case e => k_is); (case g => k_is)
          refine' G.kf_cons (G.kf_mk KX GM ?l ?k ?e ?g) ?_; (case l => k_is); (case k => exact ⟨⟨_, _, rfl, rfl⟩, ⟨_, _, rfl, rfl⟩, ⟨_, _, rfl, rfl⟩, ⟨_, _, rfl, rfl⟩, ⟨_, _, rfl, rfl⟩, ⟨_, _, rfl, rfl⟩, ⟨_, _, rfl, rfl⟩, ⟨_, _, rfl, rfl⟩, ⟨_, _, rfl, rfl⟩, trivial⟩); (case e => k_is); (case g => k_is)
          exact G.kf_nil
