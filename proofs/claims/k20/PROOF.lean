import PyProof.Rows.All
import Wide.All
import OpenK.AllK
import Wide.FinOn
import HandS.ForMost
import HandS.IsInst
import HandS.Style
import HandS.Wide
import HandS.More
import HandS.CallLocal
import KE.KDictPairs
import HandS.Iter
import HandS.Exc
import HandS.ExcOwn
import HandS.ExcField
import HandS.TryMany
import HandS.WordsExc
import HandS.ExcInit
import HandS.Ends
import PyProof.Rows.StrMul
import PySem.Challenge.RW_typedback_k20_patterns_are_let_or_refuse
set_option Elab.async false
set_option linter.all false
set_option maxRecDepth 100000
set_option maxHeartbeats 4000000
/-! GL: our own layer over the hand layer: defs by name, data that stays, rules that lack, short readings. -/
namespace G
open PySem PySem.Spec PyProof.Rows L2

/-! ### defs by name -/
/-- where a def of the text stands -/
def Df (K : PySem.W.Frag) (mg : Str → Option Value) (x : Str) (st : Stmt) : Prop := ∃ f fd, Fun K x x st f fd ∧ mg x = some (.ref f)
/-- a def that keeps a promise, called by its name -/
structure Has (P : Program) (w : World) (K : PySem.W.Frag) (mg : Str → Option Value) (base : Heap) (x : Str) (st : Stmt) (k : Nat) (ps : List Str) (sp : Sp) : Prop where
  ex : ∃ f fd, FnOk P w K mg base CX0 k f fd ps sp ∧ mg x = some (.ref f) ∧ Fun K x x st f fd ∧ Binds K fd ps []
section
variable {P : Program} {w : World} {K : PySem.W.Frag} {mg : Str → Option Value} {base : Heap}
theorem has_mk {x : Str} {st : Stmt} {N ps : List Str} {k : Nat} {sp : Sp} (D : Df K mg x st) (S : FnScope N ps (defScope st))
    (hb : ∀ (kV doc pm : Value) (an : Option Addr) (cdv ct : Value) (us : List Value), us.length = ps.length → bindArgs (PySem.W.fnOf x x (defArgs st) (defBody st) (defScope st) .none kV doc pm an cdv ct) ⟨us, []⟩ = pure (ps.zip us))
    (len : ∀ vs H Q E, sp vs H Q E → vs.length = ps.length)
    (hbody : ∀ (f : Addr) (cdv : Value) (A : Around) (outer : List Env) (s : Shared) (H : Hp) (vs : List V) (Q : VK) (E : XK), Room k (A.deeper (envOfC x (defScope st) s.heap.objs.size f cdv)) → sp vs H Q E →
      ∃ t, PSs (cxOf CX0 P w K mg base N x (defScope st) f cdv A outer s H E).nox (defBody st) t ∧ t { nx := fun _ H' => Q .non H', rt := Q } (start N vs) H) : Has P w K mg base x st (k + 1) ps sp := by
  obtain ⟨f, fd, F, m⟩ := D
  exact ⟨f, fd, F.ok S len (hbody f), m, F, F.binds hb⟩
theorem Has.mono {x : Str} {st : Stmt} {j k : Nat} {ps : List Str} {sp : Sp} (h : Has P w K mg base x st j ps sp) (hk : j ≤ k) : Has P w K mg base x st k ps sp := by
  obtain ⟨f, fd, F, m, b⟩ := h
  exact ⟨f, fd, F.mono hk, m, b⟩
/-- a weaker promise -/
theorem Has.imp {x : Str} {st : Stmt} {k : Nat} {ps : List Str} {sp sp' : Sp} (h : Has P w K mg base x st k ps sp) (hi : ∀ vs H Q E, sp' vs H Q E → sp vs H Q E) : Has P w K mg base x st k ps sp' := by
  obtain ⟨f, fd, F, m, b⟩ := h
  exact ⟨f, fd, F.imp hi, m, b⟩
end
section
variable {X : Cx} {x : Str} {st : Stmt} {k j : Nat} {ps : List Str} {sp : Sp} {p pos : Pos} {e : Expr} {es : List Expr} {t : TA}
theorem pe_callH (F : Has X.prog X.w X.K X.mg X.base x st k ps sp) (hr : Room j X.A) (hg : Gl X x) (ha : PA X (e :: es) t) (hk : k ≤ j := by decide)
    (hdb : (x == ("__debug__" : Str)) = false := by decide) (he : starEach (e :: es) X.env = (false, eval e X.env) :: starEach es X.env := by rfl) (hpl : (backTo pos (starEach es X.env)).any (·.1) = false := by rfl) :
    PE X (.Call (.Name x p) (e :: es) [] pos) (tCall sp [] E0 t) := by
  obtain ⟨f, fd, F, m, fn, b⟩ := F
  exact pe_call F (hr.mono hk) hg m fn.kp b .nil pass0 ha hdb he hpl
theorem pe_call0H (F : Has X.prog X.w X.K X.mg X.base x st k ps sp) (hr : Room j X.A) (hg : Gl X x) (hk : k ≤ j := by decide)
    (hdb : (x == ("__debug__" : Str)) = false := by decide) : PE X (.Call (.Name x p) [] [] pos) (tCall sp [] E0 tNil) := by
  obtain ⟨f, fd, F, m, fn, b⟩ := F
  exact pe_call0 F (hr.mono hk) hg m fn.kp b .nil pass0 hdb
end

/-! ### names of the module -/
section
variable {X : Cx} {x : Str} {pos : Pos}
theorem pe_gS {z : Str} (hg : Gl X x) (g : ∃ t, X.mg x = some (.str z t)) (hd : (x == ("__debug__" : Str)) = false := by decide) : PE X (.Name x pos) (tC (.str z)) := by
  obtain ⟨t, g⟩ := g
  exact pe_glob hg g ⟨t, rfl⟩ hd
theorem pe_gI {z : Int} (hg : Gl X x) (g : ∃ t, X.mg x = some (.int z t)) (hd : (x == ("__debug__" : Str)) = false := by decide) : PE X (.Name x pos) (tC (.int z)) := by
  obtain ⟨t, g⟩ := g
  exact pe_glob hg g ⟨t, rfl⟩ hd
/-- a tuple of the module's top -/
def tGT (K : PySem.W.Frag) (xs : List V) : TE := fun _ H Q => ∀ a, (∀ H', SqT K H' a xs) → Q (.ref a) H
theorem pe_gR {xs : List V} (hg : Gl X x) (g : ∃ a, X.mg x = some (.ref a) ∧ ∀ H', SqT X.K H' a xs) (hd : (x == ("__debug__" : Str)) = false := by decide) : PE X (.Name x pos) (tGT X.K xs) := by
  obtain ⟨a, g, h⟩ := g
  refine ⟨fun pins s σ H Q I q => ld_glob I hg g ⟨.ref a, H, I, rfl, q a h⟩ hd⟩
theorem pe_bT {n : String} (hg : Gl X x) (hm : X.mg x = none) (hv : bootBuiltins x = some (.type n)) (hn : x ≠ "__name__" := by decide) (hd : (x == ("__debug__" : Str)) = false := by decide) : PE X (.Name x pos) (tC (.ty n)) :=
  pe_bltn hg hm hv rfl hn hd
end

/-! ### rules that lack -/
section
variable {X : Cx}
/-- x is True, x is False, whatever x is -/
def rIsBV : R2 := fun x y H Q => ∃ b : Bool, y = .bl b ∧ Q (.bl (decide (x = .bl b))) H
theorem plain_bool {x : V} {v : Value} {b : Bool} (r : RelV x v) : plainIs v (.bool b) = true ∧ (v == Value.bool b) = decide (x = .bl b) := by
  cases x with
  | non => cases (show v = Value.none from r); exact ⟨rfl, (decide_eq_false (fun h => nomatch h)).symm⟩
  | bl c =>
    cases (show v = Value.bool c from r)
    refine ⟨rfl, ?_⟩
    cases b <;> cases c <;> rfl
  | int _ => obtain ⟨t, rfl⟩ := r; exact ⟨rfl, (decide_eq_false (fun h => nomatch h)).symm⟩
  | str _ => obtain ⟨t, rfl⟩ := r; exact ⟨rfl, (decide_eq_false (fun h => nomatch h)).symm⟩
  | byt _ => obtain ⟨t, rfl⟩ := r; exact ⟨rfl, (decide_eq_false (fun h => nomatch h)).symm⟩
  | flt _ => obtain ⟨t, rfl⟩ := r; exact ⟨rfl, (decide_eq_false (fun h => nomatch h)).symm⟩
  | ref _ => cases r; exact ⟨rfl, (decide_eq_false (fun h => nomatch h)).symm⟩
  | ty _ => cases r; exact ⟨rfl, (decide_eq_false (fun h => nomatch h)).symm⟩
theorem op_isBV : OpR X (compareOp .Is) rIsBV := by
  intro pins s σ H x y v u Q I rx ry h
  obtain ⟨b, rfl, q⟩ := h
  cases (show u = Value.bool b from ry)
  obtain ⟨p1, p2⟩ := plain_bool (b := b) rx
  exact wpAny_is_plain p1 ⟨.bl _, H, I, by rw [p2]; rfl, q⟩

/-- == and != of a list or a tuple with an empty one -/
def rEqE (K : PySem.W.Frag) (neg : Bool) : R2 := fun x y H Q => ∃ a b xs, x = .ref a ∧ y = .ref b ∧ ((SqL K H a xs ∧ SqL K H b []) ∨ (SqT K H a xs ∧ SqT K H b [])) ∧ Q (.bl (if neg then !xs.isEmpty else xs.isEmpty)) H
end

/-! ### the frozen part of the heap -/
def Ex (H H' : Hp) : Prop := ∀ a o, H a = some o → H' a = some o
theorem Ex.refl (H : Hp) : Ex H H := fun _ _ h => h
theorem Ex.trans {H H1 H2 : Hp} (a : Ex H H1) (b : Ex H1 H2) : Ex H H2 := fun x o h => b x o (a x o h)
theorem Ex.new {H : Hp} {p : Addr} {o : HO} (h : H p = none) : Ex H (upd H p o) := fun a u e => by
  rw [upd_ne (ne_of_none e h)]
  exact e
theorem Ex.free {H H' : Hp} {p : Addr} (e : Ex H H') (h : H' p = none) : H p = none := by
  cases q : H p with
  | none => rfl
  | some o =>
    rw [e p o q] at h
    cases h
theorem Ex.rd {H H' : Hp} {a : Addr} {u : HO} (e : Ex H H') (h : Rd H a u) : Rd H' a u := by
  rcases h with h | ⟨o, h⟩
  · exact Or.inl (e a _ h)
  · exact Or.inr ⟨o, e a _ h⟩
theorem Ex.l {K : PySem.W.Frag} {H H' : Hp} {a : Addr} {xs : List V} (e : Ex H H') (h : SqL K H a xs) : SqL K H' a xs := by
  rcases h with h | h
  · exact Or.inl (e.rd h)
  · exact Or.inr h
theorem Ex.t {K : PySem.W.Frag} {H H' : Hp} {a : Addr} {xs : List V} (e : Ex H H') (h : SqT K H a xs) : SqT K H' a xs := by
  rcases h with h | h
  · exact Or.inl (e.rd h)
  · exact Or.inr h
theorem Ex.mut {B H : Hp} {l : Addr} {o : HO} (e : Ex B H) (h : B l = none) : Ex B (upd H l o) := fun a u ha => by
  rw [upd_ne (ne_of_none ha h)]
  exact e a u ha

section
variable {K : PySem.W.Frag} {B B' H H' : Hp}
mutual
theorem Dp.up (e : Ex B B') : ∀ {d : PyData} {v : V}, Dp K B v d → Dp K B' v d
  | .none, _, h => by cases h; exact .non
  | .bool _, _, h => by cases h; exact .bl _
  | .int _, _, h => by cases h; exact .int _
  | .str _, _, h => by cases h; exact .str _
  | .list ds, _, h => by
    cases h with
    | lst hs ha => exact .lst (e.l hs) (Dps.up e ha)
  | .tuple ds, _, h => by
    cases h with
    | tup hs ha => exact .tup (e.t hs) (Dps.up e ha)
  | .dict _, _, h => by cases h
theorem Dps.up (e : Ex B B') : ∀ {ds : List PyData} {vs : List V}, DpAll K B vs ds → DpAll K B' vs ds
  | [], _, h => by cases h; exact .nil
  | _ :: _, _, h => by
    cases h with
    | cons h1 h2 => exact .cons (Dp.up e h1) (Dps.up e h2)
end
theorem Dps.len : ∀ {ds : List PyData} {vs : List V}, DpAll K B vs ds → vs.length = ds.length
  | [], _, h => by cases h; rfl
  | _ :: _, _, h => by
    cases h with
    | cons h1 h2 => rw [List.length_cons, List.length_cons, Dps.len h2]
theorem Dps.get : ∀ {ds : List PyData} {vs : List V} {i : Nat} {d : PyData}, DpAll K B vs ds → ds[i]? = some d → ∃ v, vs[i]? = some v ∧ Dp K B v d
  | [], _, _, _, _, e => by simp at e
  | _ :: _, _, i, _, h, e => by
    cases h with
    | cons h1 h2 =>
      cases i with
      | zero => exact ⟨_, rfl, by rw [← Option.some.inj e]; exact h1⟩
      | succ i => exact Dps.get (i := i) h2 e
theorem Dps.got : ∀ {ds : List PyData} {vs : List V} {i : Nat} {v : V}, DpAll K B vs ds → vs[i]? = some v → ∃ d, ds[i]? = some d ∧ Dp K B v d
  | [], _, _, _, h, e => by cases h; simp at e
  | _ :: _, _, i, _, h, e => by
    cases h with
    | cons h1 h2 =>
      cases i with
      | zero => exact ⟨_, rfl, by rw [← Option.some.inj e]; exact h1⟩
      | succ i => exact Dps.got (i := i) h2 e
theorem Dps.app : ∀ {ds es : List PyData} {vs us : List V}, DpAll K B vs ds → DpAll K B us es → DpAll K B (vs ++ us) (ds ++ es)
  | [], _, _, _, h, k => by cases h; exact k
  | _ :: _, _, _, _, h, k => by
    cases h with
    | cons h1 h2 => exact .cons h1 (Dps.app h2 k)
theorem Dps.one {v : V} {d : PyData} (h : Dp K B v d) : DpAll K B [v] [d] := .cons h .nil
theorem Dps.rev : ∀ {ds : List PyData} {vs : List V}, DpAll K B vs ds → DpAll K B vs.reverse ds.reverse
  | [], _, h => by cases h; exact .nil
  | _ :: _, _, h => by
    cases h with
    | cons h1 h2 =>
      rw [List.reverse_cons, List.reverse_cons]
      exact Dps.app (Dps.rev h2) (Dps.one h1)
theorem Dps.take : ∀ (n : Nat) {ds : List PyData} {vs : List V}, DpAll K B vs ds → DpAll K B (vs.take n) (ds.take n)
  | 0, _, _, _ => .nil
  | n + 1, [], _, h => by cases h; exact .nil
  | n + 1, _ :: _, _, h => by
    cases h with
    | cons h1 h2 => exact .cons h1 (Dps.take n h2)
theorem Dps.drop : ∀ (n : Nat) {ds : List PyData} {vs : List V}, DpAll K B vs ds → DpAll K B (vs.drop n) (ds.drop n)
  | 0, _, _, h => h
  | n + 1, [], _, h => by cases h; exact .nil
  | n + 1, _ :: _, _, h => by
    cases h with
    | cons h1 h2 => exact Dps.drop n h2
theorem Dps.init {ds : List PyData} {vs : List V} (h : DpAll K B vs ds) : DpAll K B vs.dropLast ds.dropLast := by
  rw [List.dropLast_eq_take, List.dropLast_eq_take, Dps.len h]
  exact Dps.take _ h
theorem Dps.erase : ∀ {i : Nat} {ds : List PyData} {vs : List V}, DpAll K B vs ds → DpAll K B (vs.eraseIdx i) (ds.eraseIdx i)
  | _, [], _, h => by cases h; exact .nil
  | 0, _ :: _, _, h => by
    cases h with
    | cons h1 h2 => exact h2
  | i + 1, _ :: _, _, h => by
    cases h with
    | cons h1 h2 => exact .cons h1 (Dps.erase h2)
theorem Dps.set : ∀ {i : Nat} {ds : List PyData} {vs : List V} {v : V} {d : PyData}, DpAll K B vs ds → Dp K B v d → DpAll K B (vs.set i v) (ds.set i d)
  | _, [], _, _, _, h, _ => by cases h; exact .nil
  | 0, _ :: _, _, _, _, h, k => by
    cases h with
    | cons h1 h2 => exact .cons k h2
  | i + 1, _ :: _, _, _, _, h, k => by
    cases h with
    | cons h1 h2 => exact .cons h1 (Dps.set h2 k)
/-- the last of a list that isn't empty -/
theorem Dps.last {ds : List PyData} {vs : List V} {d : PyData} (h : DpAll K B vs (ds ++ [d])) : ∃ us v, vs = us ++ [v] ∧ DpAll K B us ds ∧ Dp K B v d := by
  have h1 := Dps.rev h
  rw [List.reverse_append, List.reverse_singleton] at h1
  cases e : vs.reverse with
  | nil => rw [e] at h1; cases h1
  | cons v r =>
    rw [e] at h1
    cases h1 with
    | cons a b =>
      have e2 : vs = r.reverse ++ [v] := by rw [← List.reverse_reverse vs, e, List.reverse_cons]
      refine ⟨r.reverse, v, e2, ?_, a⟩
      have b2 : DpAll K B r ds.reverse := b
      have := Dps.rev b2
      rwa [List.reverse_reverse] at this
theorem Dp.int_v {v : V} {i : Int} (h : Dp K B v (.int i)) : v = .int i := by cases h; rfl
theorem Dp.str_v {v : V} {i : Str} (h : Dp K B v (.str i)) : v = .str i := by cases h; rfl
theorem Dp.bool_v {v : V} {i : Bool} (h : Dp K B v (.bool i)) : v = .bl i := by cases h; rfl
theorem Dp.none_v {v : V} (h : Dp K B v .none) : v = .non := by cases h; rfl
theorem Dp.tup_v {v : V} {ds : List PyData} (h : Dp K B v (.tuple ds)) : ∃ a xs, v = .ref a ∧ SqT K B a xs ∧ DpAll K B xs ds := by
  cases h with
  | tup hs ha => exact ⟨_, _, rfl, hs, ha⟩
theorem Dp.lst_v {v : V} {ds : List PyData} (h : Dp K B v (.list ds)) : ∃ a xs, v = .ref a ∧ SqL K B a xs ∧ DpAll K B xs ds := by
  cases h with
  | lst hs ha => exact ⟨_, _, rfl, hs, ha⟩
/-- the type of data -/
def tyD : PyData → String
  | .none => "NoneType" | .bool _ => "bool" | .int _ => "int" | .str _ => "str" | .list _ => "list" | .tuple _ => "tuple" | .dict _ => "dict"
theorem Dp.ty {v : V} {d : PyData} (h : Dp K B v d) (e : Ex B H) : TyX K H v (.type (tyD d)) := by
  have g := Dp.up e h
  cases g with
  | non => exact .base .non
  | bl b => exact .base (.bl b)
  | int i => exact .base (.int i)
  | str x => exact .base (.str x)
  | lst hs ha =>
    rcases hs with (h1 | ⟨o, h1⟩) | ⟨o, its, n, h1, h2, _⟩
    · exact .base (.lst h1)
    · exact .base (.frz h1)
    · exact .kList h1 h2
  | tup hs ha =>
    rcases hs with (h1 | ⟨o, h1⟩) | ⟨o, its, n, h1, h2, _⟩
    · exact .base (.tup h1)
    · exact .fTuple h1
    · exact .kTuple h1 h2
end

/-! ### a step of the heap: B what is frozen, H all that is tracked; M may be changed -/
structure Nx (M : List Addr) (B H B' H' : Hp) : Prop where
  b : Ex B B'
  h : Ex B' H'
  k : ∀ a o, H a = some o → a ∉ M → H' a = some o
  f : ∀ a, B a = none → H a ≠ none → B' a = none
theorem Nx.refl {M : List Addr} {B H : Hp} (e : Ex B H) : Nx M B H B H := ⟨Ex.refl _, e, fun _ _ h _ => h, fun _ h _ => h⟩
theorem Nx.trans {M : List Addr} {B H B1 H1 B2 H2 : Hp} (m : Nx M B H B1 H1) (n : Nx M B1 H1 B2 H2) (hm : ∀ a ∈ M, H a ≠ none → H1 a ≠ none) : Nx M B H B2 H2 :=
  ⟨m.b.trans n.b, n.h, fun a o h q => n.k a o (m.k a o h q) q, fun a h q => n.f a (m.f a h q) (by
    by_cases z : a ∈ M
    · exact hm a z q
    · intro y
      cases e : H a with
      | none => exact q e
      | some o => rw [m.k a o e z] at y; cases y)⟩
theorem Nx.wk {M M' : List Addr} {B H B' H' : Hp} (n : Nx M B H B' H') (h : ∀ a ∈ M, a ∈ M') : Nx M' B H B' H' := ⟨n.b, n.h, fun a o e q => n.k a o e fun z => q (h a z), n.f⟩
theorem Nx.ex {B H B' H' : Hp} (n : Nx [] B H B' H') : Ex H H' := fun a o h => n.k a o h (by simp)
/-- pure steps -/
theorem Nx.tr {B H B1 H1 B2 H2 : Hp} (m : Nx [] B H B1 H1) (n : Nx [] B1 H1 B2 H2) : Nx [] B H B2 H2 := m.trans n fun a z => absurd z (by simp)
/-- a new object that is frozen -/
theorem Nx.new {M : List Addr} {B H : Hp} {p : Addr} {o : HO} (e : Ex B H) (h : H p = none) : Nx M B H (upd B p o) (upd H p o) :=
  ⟨Ex.new (e.free h), fun a u q => by
    by_cases z : a = p
    · subst z; rw [upd_same] at q ⊢; exact q
    · rw [upd_ne z] at q ⊢; exact e a u q, fun a u q _ => by rw [upd_ne (ne_of_none q h)]; exact q, fun a q r => by
    rw [upd_ne (fun z => r (by rw [z]; exact h))]
    exact q⟩
/-- a new object that may change -/
theorem Nx.own {M : List Addr} {B H : Hp} {p : Addr} {o : HO} (e : Ex B H) (h : H p = none) : Nx M B H B (upd H p o) :=
  ⟨Ex.refl _, e.trans (Ex.new h), fun a u q _ => by rw [upd_ne (ne_of_none q h)]; exact q, fun a q _ => q⟩
/-- a list that may change -/
structure Mu (B H : Hp) (l : Addr) (xs : List V) : Prop where
  b : B l = none
  h : H l = some (.lst xs)
theorem Mu.up {M : List Addr} {B H B' H' : Hp} {l : Addr} {xs : List V} (m : Mu B H l xs) (n : Nx M B H B' H') (h : l ∉ M := by simp) : Mu B' H' l xs := ⟨n.f l m.b (by rw [m.h]; exact fun z => nomatch z), n.k l _ m.h h⟩
theorem Mu.new {B H : Hp} {p : Addr} {xs : List V} (e : Ex B H) (h : H p = none) : Mu B (upd H p (.lst xs)) p xs := ⟨e.free h, upd_same⟩
theorem Mu.ne {B H : Hp} {l p : Addr} {xs : List V} (m : Mu B H l xs) (h : H p = none) : p ≠ l := fun z => by
  rw [z, m.h] at h
  cases h
theorem Mu.ne' {B H : Hp} {l p : Addr} {xs : List V} (m : Mu B H l xs) (h : H p = none) : l ≠ p := (m.ne h).symm
/-- .. is changed -/
theorem Mu.put {B H : Hp} {l : Addr} {xs ys : List V} (m : Mu B H l xs) (e : Ex B H) : Nx [l] B H B (upd H l (.lst ys)) :=
  ⟨Ex.refl _, e.mut m.b, fun a u q z => by rw [upd_ne (fun y => z (by rw [y]; simp))]; exact q, fun a q _ => q⟩
theorem Mu.set {B H : Hp} {l : Addr} {xs ys : List V} (m : Mu B H l xs) : Mu B (upd H l (.lst ys)) l ys := ⟨m.b, upd_same⟩
theorem Mu.off {B H : Hp} {l p : Addr} {xs ys : List V} (m : Mu B H l xs) (h : l ≠ p) : Mu B (upd H p (.lst ys)) l xs := ⟨m.b, by rw [upd_ne h]; exact m.h⟩
theorem Mu.sq {K : PySem.W.Frag} {B H : Hp} {l : Addr} {xs : List V} (m : Mu B H l xs) : SqL K H l xs := SqL.of m.h
/-- it is frozen from here on -/
theorem Mu.frz {M : List Addr} {B H : Hp} {l : Addr} {xs : List V} (m : Mu B H l xs) (e : Ex B H) : Ex B (upd B l (.lst xs)) ∧ Ex (upd B l (.lst xs)) H ∧ upd B l (.lst xs) l = some (.lst xs) :=
  ⟨Ex.new m.b, fun a u q => by
    by_cases z : a = l
    · subst z; rw [upd_same] at q; cases q; exact m.h
    · rw [upd_ne z] at q; exact e a u q, upd_same⟩

/-! ### short readings -/
section
variable {K : PySem.W.Frag} {σ : L2.St} {B H : Hp} {Q : VK} {R : Bool → Hp → Prop} {ta tb te tx : TE} {x y z v : V} {r : R2} {t u : TT}
theorem sx_var {i : Nat} (h : σ[i]? = some (some v)) (q : Q v H) : tVar i σ H Q := ⟨v, h, q⟩
theorem sx_c (q : Q v H) : tC v σ H Q := q
theorem sx_op (q : ta σ H fun x H1 => tb σ H1 fun y H2 => r x y H2 Q) : tOp r ta tb σ H Q := q
theorem sx_un {r : V → Hp → VK → Prop} (q : ta σ H fun x H1 => r x H1 Q) : tUn r ta σ H Q := q
theorem sx_I0 {g : Int → Int → V} {i j : Int} (q : Q (g i j) H) : rI0 g (.int i) (.int j) H Q := ⟨i, j, rfl, rfl, q⟩
theorem sx_I {C : Int → Int → Prop} {g : Int → Int → V} {i j : Int} (c : C i j) (q : Q (g i j) H) : rI C g (.int i) (.int j) H Q := ⟨i, j, rfl, rfl, c, q⟩
theorem sx_U {g : Int → V} {i : Int} (q : Q (g i) H) : rU g (.int i) H Q := ⟨i, rfl, q⟩
theorem sx_eq (h : scal x y = true) (q : Q (.bl (decide (x = y))) H) : rEq x y H Q := ⟨h, q⟩
theorem sx_ne (h : scal x y = true) (q : Q (.bl (!decide (x = y))) H) : rNe x y H Q := ⟨h, q⟩
theorem sx_isBV {b : Bool} (q : Q (.bl (decide (x = .bl b))) H) : rIsBV x (.bl b) H Q := ⟨b, rfl, q⟩
theorem sx_test (q : te σ H fun x H' => ∃ k, x = .bl k ∧ R k H') : tTest te σ H R := q
theorem sx_tB (q : te σ H fun x H' => ∃ k, x = .bl k ∧ R k H') : tB te σ H R := q
theorem sx_isB {b : Bool} {P : Bool → Prop} (q : P b) : ∃ c, V.bl b = .bl c ∧ P c := ⟨b, rfl, q⟩
theorem sx_bl {b : Bool} (q : R b H) : ∃ k, V.bl b = .bl k ∧ R k H := ⟨b, rfl, q⟩
theorem sx_not (q : t σ H fun c H1 => R (!c) H1) : tNot t σ H R := q
theorem sx_and (q : t σ H fun c H1 => if c = true then u σ H1 R else R false H1) : tAnd t u σ H R := q
theorem sx_or (q : t σ H fun c H1 => if c = true then R true H1 else u σ H1 R) : tOr t u σ H R := q
theorem sx_andV (q : ta σ H fun x H1 => ∃ c, x = .bl c ∧ if c = true then tb σ H1 Q else Q (.bl false) H1) : tAndV ta tb σ H Q := q
theorem sx_orV (q : ta σ H fun x H1 => ∃ c, x = .bl c ∧ if c = true then Q (.bl true) H1 else tb σ H1 Q) : tOrV ta tb σ H Q := q
theorem sx_notV (q : ta σ H fun x H1 => ∃ c, x = .bl c ∧ Q (.bl (!c)) H1) : tNotV ta σ H Q := q
theorem sx_bl2 {b : Bool} {P1 P2 : Prop} (q : if b = true then P1 else P2) : ∃ c, V.bl b = .bl c ∧ if c = true then P1 else P2 := ⟨b, rfl, q⟩
theorem sx_if (q : t σ H fun c H1 => if c = true then ta σ H1 Q else tb σ H1 Q) : tIf t ta tb σ H Q := q
theorem sx_nil {Q : List V → Hp → Prop} (q : Q [] H) : tNil σ H Q := q
theorem sx_cons {tr : TA} {Q : List V → Hp → Prop} (q : ta σ H fun x H1 => tr σ H1 fun xs H2 => Q (x :: xs) H2) : tCons ta tr σ H Q := q
theorem sx_cb {r : List V → Hp → VK → Prop} {t : TA} (q : t σ H fun vs H1 => r vs H1 Q) : tCB r t σ H Q := q
theorem sx_call {sp : Sp} {t : TA} {dvs : List V} {E : XK} (q : t σ H fun vs H1 => sp (vs ++ dvs) H1 Q E) : tCall sp dvs E t σ H Q := q
theorem sx_ixL {p : Addr} {xs : List V} {i : Int} (h : SqL K H p xs) (ha : atI xs i = some v) (q : Q v H) : rIxL K (.ref p) (.int i) H Q := ⟨p, xs, i, v, rfl, rfl, h, ha, q⟩
theorem sx_ixT {p : Addr} {xs : List V} {i : Int} (h : SqT K H p xs) (ha : atI xs i = some v) (q : Q v H) : rIxT K (.ref p) (.int i) H Q := ⟨p, xs, i, v, rfl, rfl, h, ha, q⟩
/-! statements -/
variable {D : Ends} {g : TG} {ts tu : TS}
theorem sx_seq (q : ts { D with nx := tu D } σ H) : tSeq ts tu D σ H := q
theorem sx_next (q : D.nx σ H) : tNext D σ H := q
theorem sx_asg (q : te σ H fun x H1 => g x σ H1 D.nx) : tAsg te g D σ H := q
theorem sx_gname {i : Nat} {Q : L2.St → Hp → Prop} (q : Q (σ.set i (some v)) H) : gName i v σ H Q := q
theorem sx_drop (q : te σ H fun _ H1 => D.nx σ H1) : tDrop te D σ H := q
theorem sx_ret (q : te σ H D.rt) : tRet te D σ H := q
theorem sx_retN (q : D.rt .non H) : tRetN D σ H := q
theorem sx_ifS (q : t σ H fun b H1 => if b = true then ts D σ H1 else tu D σ H1) : tIfS t ts tu D σ H := q
theorem sx_par {i j : Nat} {ta : TA} (q : ta σ H fun vs H1 => ∃ v w, vs = [v, w] ∧ D.nx ((σ.set i (some v)).set j (some w)) H1) : tPar i j ta D σ H := q
theorem sx_par2 {Q : V → V → Prop} (q : Q x y) : ∃ v w, [x, y] = [v, w] ∧ Q v w := ⟨x, y, rfl, q⟩
theorem sx_bm0 {T : String} {r : V → List V → Hp → VK → Prop} (q : te σ H fun x H1 => tyV K T x H1 ∧ r x [] H1 Q) : tBM0 K T r te σ H Q := q
theorem sx_bm {T : String} {r : V → List V → Hp → VK → Prop} {ta : TA} (q : te σ H fun x H1 => tyV K T x H1 ∧ ta σ H1 fun xs H2 => r x xs H2 Q) : tBM K T r te ta σ H Q := q
theorem sx_tyL {p : Addr} {xs : List V} {A : Prop} (h : SqL K H p xs) (q : A) : tyV K "list" (.ref p) H ∧ A := ⟨.inl ⟨rfl, _, h⟩, q⟩
theorem sx_gsub {to ti : TE} {t : TSet} {Q : L2.St → Hp → Prop} (q : to σ H fun o H1 => ti σ H1 fun i H2 => t o i v H2 fun H3 => Q σ H3) : gSub to ti t v σ H Q := q
theorem sx_GT {xs : List V} (q : ∀ a, (∀ H', SqT K H' a xs) → Q (.ref a) H) : tGT K xs σ H Q := q
/-- a display -/
def rNewT (xs : List V) (H : Hp) (Q : VK) : Prop := xs.length ≤ sizeLine ∧ ∀ p, H p = none → Q (.ref p) (upd H p (.tup xs))
def rNewL (xs : List V) (H : Hp) (Q : VK) : Prop := xs.length ≤ sizeLine ∧ ∀ p, H p = none → Q (.ref p) (upd H p (.lst xs))
theorem sx_tup {ta : TA} (q : ta σ H fun xs H1 => rNewT xs H1 Q) : tTup ta σ H Q := q
theorem sx_lst {ta : TA} (q : ta σ H fun xs H1 => rNewL xs H1 Q) : tLst ta σ H Q := q
theorem sz_of {n : Nat} (h : n ≤ 100000) : n ≤ sizeLine := Nat.le_trans h (by decide)
theorem sz_lt {n : Nat} (h : n < 100000) : n < sizeLine := Nat.lt_of_lt_of_le h (by decide)
/-- a new tuple of data -/
theorem sx_newT {xs : List V} {ds : List PyData} (e : Ex B H) (hd : DpAll K B xs ds) (hz : ds.length ≤ 100000) (q : ∀ p B' H', H p = none → Nx [] B H B' H' → Dp K B' (.ref p) (.tuple ds) → Q (.ref p) H') : rNewT xs H Q :=
  ⟨sz_of (by rw [Dps.len hd]; exact hz), fun p hp => q p (upd B p (.tup xs)) _ hp (Nx.new e hp) (.tup (SqT.of upd_same) (Dps.up (Ex.new (e.free hp)) hd))⟩
/-- a new list that may change -/
theorem sx_newM {xs : List V} (e : Ex B H) (hz : xs.length ≤ 100000) (q : ∀ p H', H p = none → Nx [] B H B H' → Mu B H' p xs → Q (.ref p) H') : rNewL xs H Q :=
  ⟨sz_of hz, fun p hp => q p _ hp (Nx.own e hp) (Mu.new e hp)⟩
/-- a new list of data that won't change -/
theorem sx_newL {xs : List V} {ds : List PyData} (e : Ex B H) (hd : DpAll K B xs ds) (hz : ds.length ≤ 100000) (q : ∀ p B' H', H p = none → Nx [] B H B' H' → Dp K B' (.ref p) (.list ds) → Q (.ref p) H') : rNewL xs H Q :=
  ⟨sz_of (by rw [Dps.len hd]; exact hz), fun p hp => q p (upd B p (.lst xs)) _ hp (Nx.new e hp) (.lst (SqL.of upd_same) (Dps.up (Ex.new (e.free hp)) hd))⟩
theorem sx_append {l : Addr} {xs : List V} (m : Mu B H l xs) (e : Ex B H) (hz : xs.length < 100000) (q : ∀ H', Nx [l] B H B H' → Mu B H' l (xs ++ [y]) → Q .non H') : rAppend (.ref l) [y] H Q :=
  ⟨l, xs, y, rfl, rfl, m.h, sz_lt hz, q _ (m.put e) m.set⟩
theorem sx_pop {l : Addr} {xs : List V} (m : Mu B H l (xs ++ [y])) (e : Ex B H) (q : ∀ H', Nx [l] B H B H' → Mu B H' l xs → Q y H') : rPop (.ref l) [] H Q := by
  refine ⟨l, xs ++ [y], y, rfl, rfl, m.h, by simp, ?_⟩
  have h := q (upd H l (.lst xs)) (m.put e) m.set
  rwa [List.dropLast_concat]
theorem sx_popAt {l : Addr} {xs : List V} {i : Nat} (m : Mu B H l xs) (e : Ex B H) (hi : xs[i]? = some y) (hz : xs.length ≤ 100000) (q : ∀ H', Nx [l] B H B H' → Mu B H' l (xs.eraseIdx i) → Q y H') : rPopAt (.ref l) [.int (i : Int)] H Q := by
  have h1 := (List.getElem?_eq_some_iff.mp hi).1
  refine ⟨l, xs, (i : Int), i, y, rfl, rfl, m.h, by omega, by omega, ?_, hi, q _ (m.put e) m.set⟩
  have h2 : ¬ ((i : Int) < 0) := by omega
  have h3 : (decide (0 ≤ (i : Int)) && decide ((i : Int) < (xs.length : Int))) = true := by
    rw [decide_eq_true (by omega : (0 : Int) ≤ (i : Int)), decide_eq_true (by omega : (i : Int) < (xs.length : Int))]; rfl
  simp only [seqIndex?, if_neg h2, h3, if_true, Int.toNat_natCast]
theorem sx_setL {l : Addr} {xs : List V} {j : Nat} {k : Int} {Q : Hp → Prop} (m : Mu B H l xs) (e : Ex B H) (hj : ixN xs.length k = some j) (q : ∀ H', Nx [l] B H B H' → Mu B H' l (xs.set j v) → Q H') : rSetL (.ref l) (.int k) v H Q :=
  ⟨l, xs, k, j, rfl, rfl, m.h, hj, q _ (m.put e) m.set⟩
/-- data -/
theorem sx_ixTd {ds : List PyData} {i : Int} {d : PyData} (h : Dp K B x (.tuple ds)) (e : Ex B H) (ha : atI ds i = some d) (q : ∀ v, Dp K B v d → Q v H) : rIxT K x (.int i) H Q := by
  obtain ⟨a, xs, rfl, hs, hd⟩ := Dp.tup_v h
  unfold atI at ha
  cases hj : ixN ds.length i with
  | none => rw [hj] at ha; cases ha
  | some j =>
    rw [hj] at ha
    obtain ⟨v, h1, h2⟩ := Dps.get hd (show ds[j]? = some d from ha)
    refine ⟨a, xs, i, v, rfl, rfl, e.t hs, ?_, q v h2⟩
    unfold atI
    rw [Dps.len hd, hj]
    exact h1
theorem sx_ixLd {ds : List PyData} {i : Int} {d : PyData} (h : Dp K B x (.list ds)) (e : Ex B H) (ha : atI ds i = some d) (q : ∀ v, Dp K B v d → Q v H) : rIxL K x (.int i) H Q := by
  obtain ⟨a, xs, rfl, hs, hd⟩ := Dp.lst_v h
  unfold atI at ha
  cases hj : ixN ds.length i with
  | none => rw [hj] at ha; cases ha
  | some j =>
    rw [hj] at ha
    obtain ⟨v, h1, h2⟩ := Dps.get hd (show ds[j]? = some d from ha)
    refine ⟨a, xs, i, v, rfl, rfl, e.l hs, ?_, q v h2⟩
    unfold atI
    rw [Dps.len hd, hj]
    exact h1
end

/-! ### built-ins, by name -/
section
variable {X : Cx} {K : PySem.W.Frag} {σ : L2.St} {B H : Hp} {Q : VK} {x y v : V}
def rLen (K : PySem.W.Frag) : List V → Hp → VK → Prop := fun xs H Q => ∃ p ys, xs = [.ref p] ∧ (SqL K H p ys ∨ SqT K H p ys) ∧ Q (.int ys.length) H
theorem cl_len : CallR X (.builtin "len") (rLen X.K) := call_len_seq
theorem sx_lenL {p : Addr} {ys : List V} (h : SqL K H p ys) (q : Q (.int ys.length) H) : rLen K [.ref p] H Q := ⟨p, ys, rfl, .inl h, q⟩
theorem sx_lenT {p : Addr} {ys : List V} (h : SqT K H p ys) (q : Q (.int ys.length) H) : rLen K [.ref p] H Q := ⟨p, ys, rfl, .inr h, q⟩
theorem sx_lenTd {ds : List PyData} (h : Dp K B x (.tuple ds)) (e : Ex B H) (q : Q (.int ds.length) H) : rLen K [x] H Q := by
  obtain ⟨a, xs, rfl, hs, hd⟩ := Dp.tup_v h
  exact ⟨a, xs, rfl, .inr (e.t hs), by rw [Dps.len hd]; exact q⟩
theorem sx_lenLd {ds : List PyData} (h : Dp K B x (.list ds)) (e : Ex B H) (q : Q (.int ds.length) H) : rLen K [x] H Q := by
  obtain ⟨a, xs, rfl, hs, hd⟩ := Dp.lst_v h
  exact ⟨a, xs, rfl, .inl (e.l hs), by rw [Dps.len hd]; exact q⟩
def rInt : List V → Hp → VK → Prop := fun xs H Q => (∃ i, xs = [.int i] ∧ Q (.int i) H) ∨ ∃ k, xs = [.bl k] ∧ Q (.int (if k then 1 else 0)) H
theorem cl_int : CallR X (.type "int") rInt := call_int1
theorem sx_int {i : Int} (q : Q (.int i) H) : rInt [.int i] H Q := .inl ⟨i, rfl, q⟩
def rAbs : List V → Hp → VK → Prop := fun xs H Q => ∃ i, xs = [.int i] ∧ Q (.int (if i < 0 then -i else i)) H
theorem cl_abs : CallR X (.builtin "abs") rAbs := call_abs
theorem sx_abs {i : Int} (q : Q (.int (if i < 0 then -i else i)) H) : rAbs [.int i] H Q := ⟨i, rfl, q⟩
def rMin : List V → Hp → VK → Prop := fun xs H Q => ∃ i j, xs = [.int i, .int j] ∧ Q (.int (if j < i then j else i)) H
theorem cl_min (hc : X.calm = true) : CallR X (.builtin "min") rMin := call_min2 hc
theorem sx_min {i j : Int} (q : Q (.int (if j < i then j else i)) H) : rMin [.int i, .int j] H Q := ⟨i, j, rfl, q⟩
def rMax : List V → Hp → VK → Prop := fun xs H Q => ∃ i j, xs = [.int i, .int j] ∧ Q (.int (if j > i then j else i)) H
theorem cl_max (hc : X.calm = true) : CallR X (.builtin "max") rMax := call_max2 hc
theorem sx_max {i j : Int} (q : Q (.int (if j > i then j else i)) H) : rMax [.int i, .int j] H Q := ⟨i, j, rfl, q⟩
def rListOf (K : PySem.W.Frag) : List V → Hp → VK → Prop := fun xs H Q => ∃ p ys, xs = [.ref p] ∧ (SqL K H p ys ∨ SqT K H p ys) ∧ ∀ l, H l = none → Q (.ref l) (upd H l (.lst ys))
theorem cl_list : CallR X (.type "list") (rListOf X.K) := call_list_of
theorem sx_listOf {p : Addr} {ys : List V} (e : Ex B H) (h : SqL K H p ys ∨ SqT K H p ys) (q : ∀ l H', H l = none → Nx [] B H B H' → Mu B H' l ys → Q (.ref l) H') : rListOf K [.ref p] H Q := ⟨p, ys, rfl, h, fun l hl => q l _ hl (Nx.own e hl) (Mu.new e hl)⟩
def rTupOf (K : PySem.W.Frag) : List V → Hp → VK → Prop := fun xs H Q => ∃ p ys, xs = [.ref p] ∧ ((SqL K H p ys ∧ ∀ l, H l = none → Q (.ref l) (upd H l (.tup ys))) ∨ (SqT K H p ys ∧ Q (.ref p) H))
theorem cl_tuple : CallR X (.type "tuple") (rTupOf X.K) := call_tuple_of
theorem sx_tupOfL {p : Addr} {ys : List V} {ds : List PyData} (e : Ex B H) (h : SqL K H p ys) (hd : DpAll K B ys ds) (q : ∀ l B' H', H l = none → Nx [] B H B' H' → Dp K B' (.ref l) (.tuple ds) → Q (.ref l) H') : rTupOf K [.ref p] H Q :=
  ⟨p, ys, rfl, .inl ⟨h, fun l hl => q l (upd B l (.tup ys)) _ hl (Nx.new e hl) (.tup (SqT.of upd_same) (Dps.up (Ex.new (e.free hl)) hd))⟩⟩
theorem sx_tupOfT {p : Addr} {ys : List V} (h : SqT K H p ys) (q : Q (.ref p) H) : rTupOf K [.ref p] H Q := ⟨p, ys, rfl, .inr ⟨h, q⟩⟩
/-- isinstance of data by one class -/
theorem sx_isi {d : PyData} {n : String} {b : Bool} (h : Dp K B x d) (e : Ex B H) (k : kitB (tyD d) n = some b) (q : Q (.bl b) H) : rIsi K [x, .ty n] H Q := ⟨x, .ty n, .type (tyD d), .type n, b, rfl, .ty n, Dp.ty h e, kit_ty k, q⟩
def rAddS : R2 := fun x y H Q => ∃ i j, x = .str i ∧ y = .str j ∧ i.length + j.length ≤ sizeLine ∧ Q (.str (i ++ j)) H
theorem op_addS : OpR X (binaryOp .Add) rAddS := op_add_str
theorem sx_addS {i j : Str} (h : i.length + j.length ≤ 100000) (q : Q (.str (i ++ j)) H) : rAddS (.str i) (.str j) H Q := ⟨i, j, rfl, rfl, sz_of h, q⟩
def rIsN : R2 := fun x y H Q => y = .non ∧ Q (.bl (decide (x = .non))) H
def rNotN : R2 := fun x y H Q => y = .non ∧ Q (.bl (!decide (x = .non))) H
theorem op_isN1 : OpR X (compareOp .Is) G.rIsN := op_isN
theorem op_notN1 : OpR X (compareOp .IsNot) G.rNotN := op_notN
theorem sx_isN (q : Q (.bl (decide (x = .non))) H) : G.rIsN x .non H Q := ⟨rfl, q⟩
theorem sx_notN (q : Q (.bl (!decide (x = .non))) H) : G.rNotN x .non H Q := ⟨rfl, q⟩
end

/-! ### a cut -/
section
variable {X : Cx}
def tCut (t u : TS) : TS := fun D σ H => ∃ Mid : L2.St → Hp → Prop, t { D with nx := Mid } σ H ∧ ∀ σ' H', Mid σ' H' → u D σ' H'
theorem pss_cut {st : Stmt} {rest : List Stmt} {t u : TS} (h1 : PS X st t) (h2 : PSs X rest u) : PSs X (st :: rest) (tCut t u) := by
  refine ⟨fun pins s σ H D I h => ?_⟩
  obtain ⟨Mid, hm, hu⟩ := h
  refine wpAny_execs_cons (thn (h1.run pins s σ H { D with nx := Mid } I hm) fun f s1 q => ?_)
  cases f with
  | next =>
    obtain ⟨σ', H', I', q⟩ := q
    exact h2.run pins s1 σ' H' D I' (hu σ' H' q)
  | ret v => exact q
  | brk => exact q
  | cont => exact q
theorem sx_cut {t u : TS} {D : Ends} {σ : L2.St} {H : Hp} (Mid : L2.St → Hp → Prop) (h : t { D with nx := Mid } σ H) (k : ∀ σ' H', Mid σ' H' → u D σ' H') : tCut t u D σ H := ⟨Mid, h, k⟩
end
/-! ### tests -/
theorem ifT {A B : Prop} {b : Bool} (e : b = true) (h : A) : if b = true then A else B := by rw [if_pos e]; exact h
theorem ifF {A B : Prop} {b : Bool} (e : b = false) (h : B) : if b = true then A else B := by rw [if_neg (by rw [e]; exact Bool.false_ne_true)]; exact h
theorem dT {p : Prop} [Decidable p] (h : p) : decide p = true := decide_eq_true h
theorem dF {p : Prop} [Decidable p] (h : ¬ p) : decide p = false := decide_eq_false h
theorem int_eqT {i j : Int} (h : i = j) : decide (V.int i = V.int j) = true := decide_eq_true (by rw [h])
theorem int_eqF {i j : Int} (h : i ≠ j) : decide (V.int i = V.int j) = false := decide_eq_false fun z => h (V.int.inj z)
theorem str_eqT {i j : Str} (h : i = j) : decide (V.str i = V.str j) = true := decide_eq_true (by rw [h])
theorem str_eqF {i j : Str} (h : i ≠ j) : decide (V.str i = V.str j) = false := decide_eq_false fun z => h (V.str.inj z)
theorem snoc_of {α : Type} {xs : List α} (h : xs ≠ []) : ∃ r z, xs = r ++ [z] := ⟨xs.dropLast, xs.getLast h, (List.dropLast_concat_getLast h).symm⟩
theorem atI_end {α : Type} {r : List α} {z : α} : atI (r ++ [z]) (-1) = some z := atI_last _ _
section
variable {H : Hp} {Q : VK} {i j : Int}
theorem sx_mod (h : 0 < j) (q : Q (.int (i % j)) H) : rI (fun _ j => 0 < j) (fun i j => .int (i % j)) (.int i) (.int j) H Q := ⟨i, j, rfl, rfl, h, q⟩
theorem sx_div (h : 0 < j) (h1 : j < 1073741824) (q : Q (.int (i / j)) H) : rI CDiv (fun i j => .int (i / j)) (.int i) (.int j) H Q := ⟨i, j, rfl, rfl, ⟨h, h1⟩, q⟩
/-- a product of numbers below 2 ^ 64 -/
theorem sx_mul64 (h : -(2 ^ 64) < i ∧ i < 2 ^ 64) (h1 : -(2 ^ 64) < j ∧ j < 2 ^ 64) (q : Q (.int (i * j)) H) : rI CMulW (fun i j => .int (i * j)) (.int i) (.int j) H Q :=
  ⟨i, j, rfl, rfl, wide_mul (a := 65) (b := 65) (by have : (2 : Nat) ^ 65 = 2 * 2 ^ 64 := by decide
                                                    omega) (by omega) (by decide) (by decide) (by decide), q⟩
theorem sx_mulW {a b : Nat} (ha : i.natAbs < 2 ^ a) (hb : j.natAbs < 2 ^ b) (h0 : 0 < a) (h1 : 0 < b) (h : a + b ≤ 1000000) (q : Q (.int (i * j)) H) : rI CMulW (fun i j => .int (i * j)) (.int i) (.int j) H Q := ⟨i, j, rfl, rfl, wide_mul ha hb h0 h1 h, q⟩
theorem sx_pow (h0 : 0 ≤ j) (h1 : j ≤ 1000000) (h2 : i.natAbs < 2 ^ 64) (q : Q (.int (i ^ j.toNat)) H) : rI CPow (fun i j => .int (i ^ j.toNat)) (.int i) (.int j) H Q := ⟨i, j, rfl, rfl, ⟨h0, h1, h2⟩, q⟩
end

/-! ### loops and comprehensions -/
section
variable {K : PySem.W.Frag} {σ : L2.St} {B H : Hp} {Q : VK} {tl te : TE} {g : TG} {tt : TT} {tb : TS} {vs : List Nat} {D : Ends} {ta : TA} {x : V}
/-- a comprehension over what the value x is (a list) -/
def rLcL (K : PySem.W.Frag) (g : TG) (tt : TT) (te : TE) (vs : List Nat) (σ : L2.St) (x : V) (H : Hp) (Q : VK) : Prop := ∃ a, x = .ref a ∧ (∃ xs, SqL K H a xs) ∧ ∀ D, H D = none → ∃ W : Nat → Nat → Hp → Prop, (∃ m, W 0 m (upd H D (.lst []))) ∧ ∀ i m H, W i m H →
  ((Itl K a).stop i H ∧ Q (.ref D) H) ∨ ((Itl K a).go i H ∧ ∃ Nx : Hp → Prop, (∀ H', Nx H' → ∃ m', m' < m ∧ W (i + 1) m' H') ∧ ∀ x H', (Itl K a).yld i H x H' → g x (wipe σ vs) H' fun σ2 H2 => wipe σ2 vs = wipe σ vs ∧ tt σ2 H2 fun b H3 =>
    if b = true then te σ2 H3 fun y H4 => ∃ acc, H4 D = some (.lst acc) ∧ acc.length < sizeLine ∧ Nx (upd H4 D (.lst (acc ++ [y]))) else Nx H3)
theorem sx_lcL (q : tl σ H fun x H1 => rLcL K g tt te vs σ x H1 Q) : tLc (iList K tl) g tt te vs σ H Q := q
def rLcT (K : PySem.W.Frag) (g : TG) (tt : TT) (te : TE) (vs : List Nat) (σ : L2.St) (x : V) (H : Hp) (Q : VK) : Prop := ∃ a, x = .ref a ∧ (∃ xs, SqT K H a xs) ∧ ∀ D, H D = none → ∃ W : Nat → Nat → Hp → Prop, (∃ m, W 0 m (upd H D (.lst []))) ∧ ∀ i m H, W i m H →
  ((Itt K a).stop i H ∧ Q (.ref D) H) ∨ ((Itt K a).go i H ∧ ∃ Nx : Hp → Prop, (∀ H', Nx H' → ∃ m', m' < m ∧ W (i + 1) m' H') ∧ ∀ x H', (Itt K a).yld i H x H' → g x (wipe σ vs) H' fun σ2 H2 => wipe σ2 vs = wipe σ vs ∧ tt σ2 H2 fun b H3 =>
    if b = true then te σ2 H3 fun y H4 => ∃ acc, H4 D = some (.lst acc) ∧ acc.length < sizeLine ∧ Nx (upd H4 D (.lst (acc ++ [y]))) else Nx H3)
theorem sx_lcT (q : tl σ H fun x H1 => rLcT K g tt te vs σ x H1 Q) : tLc (iTup K tl) g tt te vs σ H Q := q
def rLcR (g : TG) (tt : TT) (te : TE) (vs : List Nat) (σ : L2.St) (us : List V) (H : Hp) (Q : VK) : Prop := ∃ j : Int, us = [.int j] ∧ -(2 ^ 62) ≤ j ∧ j < 2 ^ 62 ∧ ∀ D, H D = none → ∃ W : Nat → Nat → Hp → Prop, (∃ m, W 0 m (upd H D (.lst []))) ∧ ∀ i m H, W i m H →
  ((Itr 0 j.toNat).stop i H ∧ Q (.ref D) H) ∨ ((Itr 0 j.toNat).go i H ∧ ∃ Nx : Hp → Prop, (∀ H', Nx H' → ∃ m', m' < m ∧ W (i + 1) m' H') ∧ ∀ x H', (Itr 0 j.toNat).yld i H x H' → g x (wipe σ vs) H' fun σ2 H2 => wipe σ2 vs = wipe σ vs ∧ tt σ2 H2 fun b H3 =>
    if b = true then te σ2 H3 fun y H4 => ∃ acc, H4 D = some (.lst acc) ∧ acc.length < sizeLine ∧ Nx (upd H4 D (.lst (acc ++ [y]))) else Nx H3)
theorem sx_lcR (q : ta σ H fun us H1 => rLcR g tt te vs σ us H1 Q) : tLc (iRng1 ta) g tt te vs σ H Q := q
/-- the list grows -/
theorem sx_lcEnd {L : Addr} {acc : List V} {y : V} {P : Hp → Prop} (m : Mu B H L acc) (e : Ex B H) (hz : acc.length < 100000) (q : ∀ H', Nx [L] B H B H' → Mu B H' L (acc ++ [y]) → P H') : ∃ acc, H L = some (.lst acc) ∧ acc.length < sizeLine ∧ P (upd H L (.lst (acc ++ [y]))) :=
  ⟨acc, m.h, sz_lt hz, q _ (m.put e) m.set⟩
/-- one that makes values of values -/
theorem sx_lcPure {a : Addr} {xs : List V} {j : Nat} (f : V → Bool) (h : V → V) (e : Ex B H) (hx : SqL K H a xs) (hz : xs.length ≤ 100000) (hw : ∀ x, wipe ((wipe σ vs).set j (some x)) vs = wipe σ vs)
    (ht : ∀ x ∈ xs, ∀ H1 (R : Bool → Hp → Prop), Ex H H1 → R (f x) H1 → tt ((wipe σ vs).set j (some x)) H1 R)
    (he : ∀ x ∈ xs, f x = true → ∀ H1 (R : VK), Ex H H1 → R (h x) H1 → te ((wipe σ vs).set j (some x)) H1 R)
    (q : ∀ p H', H p = none → Nx [] B H B H' → Mu B H' p ((xs.filter f).map h) → Q (.ref p) H') : rLcL K (gName j) tt te vs σ (.ref a) H Q := by
  refine ⟨a, rfl, ⟨xs, hx⟩, fun L hL => lc_list (xs := xs) (fun i H' => Nx [] B H B H' ∧ Mu B H' L (((xs.take i).filter f).map h)) ⟨Nx.own e hL, by simpa using Mu.new e hL⟩ (fun i H' _ p => p.1.ex.l hx) (fun i x H' hi p => ?_) (fun H' p => q L H' hL p.1 (by simpa using p.2))⟩
  have hm : x ∈ xs := List.mem_of_getElem? hi
  have hlen : (((xs.take i).filter f).map h).length ≤ 100000 := by
    rw [List.length_map]
    exact Nat.le_trans (List.length_filter_le _ _) (Nat.le_trans (by rw [List.length_take]; exact Nat.min_le_right _ _) hz)
  have hi' := (List.getElem?_eq_some_iff.mp hi).1
  have hlen2 : (((xs.take i).filter f).map h).length < 100000 := by
    rw [List.length_map]
    exact Nat.lt_of_le_of_lt (List.length_filter_le _ _) (by rw [List.length_take]; omega)
  show wipe ((wipe σ vs).set j (some x)) vs = wipe σ vs ∧ _
  refine ⟨hw x, ?_⟩
  refine ht x hm H' _ p.1.ex ?_
  have htake : xs.take (i + 1) = xs.take i ++ [x] := by rw [List.take_add_one, hi]; rfl
  cases hf : f x with
  | true =>
    refine iteT ?_
    refine he x hm hf H' _ p.1.ex ?_
    have n2 := p.2.put (ys := ((xs.take i).filter f).map h ++ [h x]) p.1.h
    have m2 := p.2.set (ys := ((xs.take i).filter f).map h ++ [h x])
    refine ⟨_, p.2.h, sz_lt hlen2, ?_, ?_⟩
    · exact ⟨Ex.refl _, n2.h, fun b o hb _ => by
        by_cases z : b = L
        · subst z; rw [hL] at hb; cases hb
        · exact n2.k b o (p.1.k b o hb (by simp)) (by simp [z]), fun b hb _ => hb⟩
    · rw [htake, List.filter_append, List.filter_cons, if_pos hf, List.map_append]
      exact m2
  | false =>
    refine iteF ⟨p.1, ?_⟩
    rw [htake, List.filter_append, List.filter_cons, if_neg (by rw [hf]; exact Bool.false_ne_true), List.filter_nil, List.append_nil]
    exact p.2
/-- a for over what the value x is -/
def rForL (K : PySem.W.Frag) (g : TG) (tb : TS) (D : Ends) (σ : L2.St) (x : V) (H : Hp) : Prop := ∃ a, x = .ref a ∧ (∃ xs, SqL K H a xs) ∧ ∃ W : Nat → Nat → L2.St → Hp → Prop, (∃ m, W 0 m σ H) ∧ ∀ i m σ H, W i m σ H →
  ((Itl K a).stop i H ∧ D.nx σ H) ∨ ((Itl K a).go i H ∧ ∃ N : L2.St → Hp → Prop, (∀ σ' H', N σ' H' → ∃ m', m' < m ∧ W (i + 1) m' σ' H') ∧ ∀ x H', (Itl K a).yld i H x H' → g x σ H' fun σ2 H2 => tb { D with nx := N, ct := N, bk := D.nx } σ2 H2)
theorem sx_forL (q : tl σ H fun x H1 => rForL K g tb D σ x H1) : tFor (iList K tl) g tb D σ H := q
def rForT (K : PySem.W.Frag) (g : TG) (tb : TS) (D : Ends) (σ : L2.St) (x : V) (H : Hp) : Prop := ∃ a, x = .ref a ∧ (∃ xs, SqT K H a xs) ∧ ∃ W : Nat → Nat → L2.St → Hp → Prop, (∃ m, W 0 m σ H) ∧ ∀ i m σ H, W i m σ H →
  ((Itt K a).stop i H ∧ D.nx σ H) ∨ ((Itt K a).go i H ∧ ∃ N : L2.St → Hp → Prop, (∀ σ' H', N σ' H' → ∃ m', m' < m ∧ W (i + 1) m' σ' H') ∧ ∀ x H', (Itt K a).yld i H x H' → g x σ H' fun σ2 H2 => tb { D with nx := N, ct := N, bk := D.nx } σ2 H2)
theorem sx_forT (q : tl σ H fun x H1 => rForT K g tb D σ x H1) : tFor (iTup K tl) g tb D σ H := q
def rForR (g : TG) (tb : TS) (D : Ends) (σ : L2.St) (us : List V) (H : Hp) : Prop := ∃ j : Int, us = [.int j] ∧ -(2 ^ 62) ≤ j ∧ j < 2 ^ 62 ∧ ∃ W : Nat → Nat → L2.St → Hp → Prop, (∃ m, W 0 m σ H) ∧ ∀ i m σ H, W i m σ H →
  ((Itr 0 j.toNat).stop i H ∧ D.nx σ H) ∨ ((Itr 0 j.toNat).go i H ∧ ∃ N : L2.St → Hp → Prop, (∀ σ' H', N σ' H' → ∃ m', m' < m ∧ W (i + 1) m' σ' H') ∧ ∀ x H', (Itr 0 j.toNat).yld i H x H' → g x σ H' fun σ2 H2 => tb { D with nx := N, ct := N, bk := D.nx } σ2 H2)
theorem sx_forR (q : ta σ H fun us H1 => rForR g tb D σ us H1) : tFor (iRng1 ta) g tb D σ H := q
def rForR2 (g : TG) (tb : TS) (D : Ends) (σ : L2.St) (us : List V) (H : Hp) : Prop := ∃ i j : Int, us = [.int i, .int j] ∧ (-(2 ^ 62) ≤ i ∧ i < 2 ^ 62 ∧ -(2 ^ 62) ≤ j ∧ j < 2 ^ 62) ∧ ∃ W : Nat → Nat → L2.St → Hp → Prop, (∃ m, W 0 m σ H) ∧ ∀ n m σ H, W n m σ H →
  ((Itr i (j - i).toNat).stop n H ∧ D.nx σ H) ∨ ((Itr i (j - i).toNat).go n H ∧ ∃ N : L2.St → Hp → Prop, (∀ σ' H', N σ' H' → ∃ m', m' < m ∧ W (n + 1) m' σ' H') ∧ ∀ x H', (Itr i (j - i).toNat).yld n H x H' → g x σ H' fun σ2 H2 => tb { D with nx := N, ct := N, bk := D.nx } σ2 H2)
theorem sx_forR2 (q : ta σ H fun us H1 => rForR2 g tb D σ us H1) : tFor (iRng2 ta) g tb D σ H := q
/-- by an invariant -/
theorem sx_forL_by {a : Addr} {xs : List V} (hx : SqL K H a xs) (Pv : Nat → L2.St → Hp → Prop) (h0 : Pv 0 σ H) (hl : ∀ i σ H, i ≤ xs.length → Pv i σ H → SqL K H a xs)
    (hs : ∀ i x σ H, xs[i]? = some x → Pv i σ H → g x σ H fun σ2 H2 => tb { D with nx := Pv (i + 1), ct := Pv (i + 1), bk := D.nx } σ2 H2) (hd : ∀ σ H, Pv xs.length σ H → D.nx σ H) : rForL K g tb D σ (.ref a) H :=
  ⟨a, rfl, ⟨xs, hx⟩, for_list (xs := xs) Pv h0 hl hs hd⟩
theorem sx_forT_by {a : Addr} {xs : List V} (hx : SqT K H a xs) (Pv : Nat → L2.St → Hp → Prop) (h0 : Pv 0 σ H) (hl : ∀ i σ H, i ≤ xs.length → Pv i σ H → SqT K H a xs)
    (hs : ∀ i x σ H, xs[i]? = some x → Pv i σ H → g x σ H fun σ2 H2 => tb { D with nx := Pv (i + 1), ct := Pv (i + 1), bk := D.nx } σ2 H2) (hd : ∀ σ H, Pv xs.length σ H → D.nx σ H) : rForT K g tb D σ (.ref a) H :=
  ⟨a, rfl, ⟨xs, hx⟩, for_tup (xs := xs) Pv h0 hl hs hd⟩
theorem sx_forR_by {n : Nat} (hn : n ≤ 1000000) (Pv : Nat → L2.St → Hp → Prop) (h0 : Pv 0 σ H)
    (hs : ∀ i σ H, i < n → Pv i σ H → g (.int (i : Int)) σ H fun σ2 H2 => tb { D with nx := Pv (i + 1), ct := Pv (i + 1), bk := D.nx } σ2 H2) (hd : ∀ σ H, Pv n σ H → D.nx σ H) : rForR g tb D σ [.int (n : Int)] H :=
  ⟨(n : Int), rfl, by omega, by omega, for_range (lo := 0) (n := (n : Int).toNat) Pv h0 (fun i σ H hi p => by rw [Int.zero_add]; exact hs i σ H (by simpa using hi) p) (fun σ H p => hd σ H (by simpa using p))⟩
theorem sx_forR2_by {lo n : Nat} (hl : lo ≤ 1000000) (hn : n ≤ 1000000) (Pv : Nat → L2.St → Hp → Prop) (h0 : Pv 0 σ H)
    (hs : ∀ i σ H, lo + i < n → Pv i σ H → g (.int ((lo + i : Nat) : Int)) σ H fun σ2 H2 => tb { D with nx := Pv (i + 1), ct := Pv (i + 1), bk := D.nx } σ2 H2) (hd : ∀ σ H, Pv (n - lo) σ H → D.nx σ H) : rForR2 g tb D σ [.int (lo : Int), .int (n : Int)] H :=
  ⟨(lo : Int), (n : Int), rfl, by omega, for_range (lo := (lo : Int)) (n := ((n : Int) - (lo : Int)).toNat) Pv h0 (fun i σ H hi p => by rw [← Int.natCast_add]; exact hs i σ H (by omega) p) (fun σ H p => hd σ H (by rw [show n - lo = ((n : Int) - (lo : Int)).toNat by omega]; exact p))⟩
theorem sx_lcR_by {n : Nat} (hn : n ≤ 100000) (Pv : Addr → Nat → Hp → Prop) (h0 : ∀ L, H L = none → Pv L 0 (upd H L (.lst [])))
    (hs : ∀ L i H, i < n → Pv L i H → g (.int (i : Int)) (wipe σ vs) H fun σ2 H2 => wipe σ2 vs = wipe σ vs ∧ tt σ2 H2 fun b H3 =>
      if b = true then te σ2 H3 fun y H4 => ∃ acc, H4 L = some (.lst acc) ∧ acc.length < sizeLine ∧ Pv L (i + 1) (upd H4 L (.lst (acc ++ [y]))) else Pv L (i + 1) H3) (hd : ∀ L H, Pv L n H → Q (.ref L) H) : rLcR g tt te vs σ [.int (n : Int)] H Q :=
  ⟨(n : Int), rfl, by omega, by omega, fun L hL => lc_range (lo := 0) (n := (n : Int).toNat) (Pv L) (h0 L hL) (fun i H hi p => by rw [Int.zero_add]; exact hs L i H (by simpa using hi) p) (fun H p => hd L H (by simpa using p))⟩
theorem sx_lcL_by {a : Addr} {xs : List V} (hx : SqL K H a xs) (Pv : Addr → Nat → Hp → Prop) (h0 : ∀ L, H L = none → Pv L 0 (upd H L (.lst []))) (hl : ∀ L i H, i ≤ xs.length → Pv L i H → SqL K H a xs)
    (hs : ∀ L i x H, xs[i]? = some x → Pv L i H → g x (wipe σ vs) H fun σ2 H2 => wipe σ2 vs = wipe σ vs ∧ tt σ2 H2 fun b H3 =>
      if b = true then te σ2 H3 fun y H4 => ∃ acc, H4 L = some (.lst acc) ∧ acc.length < sizeLine ∧ Pv L (i + 1) (upd H4 L (.lst (acc ++ [y]))) else Pv L (i + 1) H3) (hd : ∀ L H, Pv L xs.length H → Q (.ref L) H) : rLcL K g tt te vs σ (.ref a) H Q :=
  ⟨a, rfl, ⟨xs, hx⟩, fun L hL => lc_list (xs := xs) (Pv L) (h0 L hL) (hl L) (hs L) (hd L)⟩
theorem sx_lcT_by {a : Addr} {xs : List V} (hx : SqT K H a xs) (Pv : Addr → Nat → Hp → Prop) (h0 : ∀ L, H L = none → Pv L 0 (upd H L (.lst []))) (hl : ∀ L i H, i ≤ xs.length → Pv L i H → SqT K H a xs)
    (hs : ∀ L i x H, xs[i]? = some x → Pv L i H → g x (wipe σ vs) H fun σ2 H2 => wipe σ2 vs = wipe σ vs ∧ tt σ2 H2 fun b H3 =>
      if b = true then te σ2 H3 fun y H4 => ∃ acc, H4 L = some (.lst acc) ∧ acc.length < sizeLine ∧ Pv L (i + 1) (upd H4 L (.lst (acc ++ [y]))) else Pv L (i + 1) H3) (hd : ∀ L H, Pv L xs.length H → Q (.ref L) H) : rLcT K g tt te vs σ (.ref a) H Q :=
  ⟨a, rfl, ⟨xs, hx⟩, fun L hL => lc_tup (xs := xs) (Pv L) (h0 L hL) (hl L) (hs L) (hd L)⟩
/-- slices -/
theorem sx_sl {r : V → Option Int → Option Int → Hp → VK → Prop} {tlo thi : TO} (q : te σ H fun x H1 => tlo σ H1 fun l H2 => thi σ H2 fun u H3 => r x l u H3 Q) : tSl r te tlo thi σ H Q := q
theorem sx_noPart {Q : Option Int → Hp → Prop} (q : Q none H) : tNoPart σ H Q := q
theorem sx_part {Q : Option Int → Hp → Prop} (q : te σ H fun x H1 => ∃ i, x = .int i ∧ Q (some i) H1) : tPart te σ H Q := q
theorem sx_isI {i : Int} {P : Int → Prop} (q : P i) : ∃ j, V.int i = .int j ∧ P j := ⟨i, rfl, q⟩
theorem sx_slL {a : Addr} {xs : List V} {lo hi : Option Int} (e : Ex B H) (hx : SqL K H a xs) (q : ∀ p H', H p = none → Nx [] B H B H' → Mu B H' p (cutV xs lo hi) → Q (.ref p) H') : rSlL K (.ref a) lo hi H Q := ⟨a, xs, rfl, hx, fun p hp => q p _ hp (Nx.own e hp) (Mu.new e hp)⟩
def rRevL (K : PySem.W.Frag) : V → Hp → VK → Prop := fun x H1 Q => ∃ a xs, x = .ref a ∧ SqL K H1 a xs ∧ ∀ p, H1 p = none → Q (.ref p) (upd H1 p (.lst xs.reverse))
theorem sx_revL (q : te σ H fun x H1 => rRevL K x H1 Q) : tRevL K te σ H Q := q
theorem sx_revL2 {a : Addr} {xs : List V} (e : Ex B H) (hx : SqL K H a xs) (q : ∀ p H', H p = none → Nx [] B H B H' → Mu B H' p xs.reverse → Q (.ref p) H') : rRevL K (.ref a) H Q := ⟨a, xs, rfl, hx, fun p hp => q p _ hp (Nx.own e hp) (Mu.new e hp)⟩
theorem cut_to (xs : List V) (n : Nat) : cutV xs none (some (n : Int)) = xs.take n := by
  unfold cutV
  rw [HT.sIx_none, HT.sIx_nat, List.drop_zero, Nat.sub_zero, List.take_eq_take_iff]
  simp
end

theorem Nx.sq {K : PySem.W.Frag} {M : List Addr} {B H B' H' : Hp} {a : Addr} {xs : List V} (n : Nx M B H B' H') (h : SqL K H a xs) (ha : a ∉ M) : SqL K H' a xs := by
  rcases h with (h | ⟨o, h⟩) | h
  · exact .inl (.inl (n.k a _ h ha))
  · exact .inl (.inr ⟨o, n.k a _ h ha⟩)
  · exact .inr h
/-! data without lists -/
mutual
def flatD : PyData → Bool
  | .list _ => false
  | .dict _ => false
  | .tuple ds => flatDs ds
  | _ => true
def flatDs : List PyData → Bool
  | [] => true
  | d :: ds => flatD d && flatDs ds
end
theorem flatDs_get {ds : List PyData} {i : Nat} {d : PyData} (h : flatDs ds = true) (e : ds[i]? = some d) : flatD d = true := by
  induction ds generalizing i with
  | nil => simp at e
  | cons x r ih =>
    unfold flatDs at h
    rw [Bool.and_eq_true] at h
    cases i with
    | zero =>
      have e' : x = d := Option.some.inj e
      rw [← e']
      exact h.1
    | succ i => exact ih h.2 e
/-! how many parts -/
mutual
def szD : PyData → Nat
  | .tuple ds => szDs ds + 1
  | _ => 1
def szDs : List PyData → Nat
  | [] => 0
  | d :: ds => szD d + szDs ds
end
def isInt : PyData → Bool
  | .int _ => true
  | .bool _ => true
  | _ => false
theorem kit_int (d : PyData) : kitB (tyD d) "int" = some (isInt d) := by
  cases d with
  | none => exact (by decide +kernel : kitB "NoneType" "int" = some false)
  | bool b => exact (by decide +kernel : kitB "bool" "int" = some true)
  | int i => exact (by decide +kernel : kitB "int" "int" = some true)
  | str z => exact (by decide +kernel : kitB "str" "int" = some false)
  | list ds => exact (by decide +kernel : kitB "list" "int" = some false)
  | tuple ds => exact (by decide +kernel : kitB "tuple" "int" = some false)
  | dict ds => exact (by decide +kernel : kitB "dict" "int" = some false)
theorem sx_isInt {K : PySem.W.Frag} {B H : Hp} {Q : VK} {x : V} {d : PyData} (h : Dp K B x d) (e : Ex B H) (q : Q (.bl (isInt d)) H) : rIsi K [x, .ty "int"] H Q := sx_isi h e (kit_int d) q
def isBool : PyData → Bool
  | .bool _ => true
  | _ => false
theorem kit_bool (d : PyData) : kitB (tyD d) "bool" = some (isBool d) := by
  cases d with
  | none => exact (by decide +kernel : kitB "NoneType" "bool" = some false)
  | bool b => exact (by decide +kernel : kitB "bool" "bool" = some true)
  | int i => exact (by decide +kernel : kitB "int" "bool" = some false)
  | str z => exact (by decide +kernel : kitB "str" "bool" = some false)
  | list ds => exact (by decide +kernel : kitB "list" "bool" = some false)
  | tuple ds => exact (by decide +kernel : kitB "tuple" "bool" = some false)
  | dict ds => exact (by decide +kernel : kitB "dict" "bool" = some false)
theorem sx_isBool {K : PySem.W.Frag} {B H : Hp} {Q : VK} {x : V} {d : PyData} (h : Dp K B x d) (e : Ex B H) (q : Q (.bl (isBool d)) H) : rIsi K [x, .ty "bool"] H Q := sx_isi h e (kit_bool d) q
def isStr : PyData → Bool
  | .str _ => true
  | _ => false
theorem kit_str (d : PyData) : kitB (tyD d) "str" = some (isStr d) := by
  cases d with
  | none => exact (by decide +kernel : kitB "NoneType" "str" = some false)
  | bool b => exact (by decide +kernel : kitB "bool" "str" = some false)
  | int i => exact (by decide +kernel : kitB "int" "str" = some false)
  | str z => exact (by decide +kernel : kitB "str" "str" = some true)
  | list ds => exact (by decide +kernel : kitB "list" "str" = some false)
  | tuple ds => exact (by decide +kernel : kitB "tuple" "str" = some false)
  | dict ds => exact (by decide +kernel : kitB "dict" "str" = some false)
theorem sx_isStr {K : PySem.W.Frag} {B H : Hp} {Q : VK} {x : V} {d : PyData} (h : Dp K B x d) (e : Ex B H) (q : Q (.bl (isStr d)) H) : rIsi K [x, .ty "str"] H Q := sx_isi h e (kit_str d) q
def isTup : PyData → Bool
  | .tuple _ => true
  | _ => false
theorem kit_tuple (d : PyData) : kitB (tyD d) "tuple" = some (isTup d) := by
  cases d with
  | none => exact (by decide +kernel : kitB "NoneType" "tuple" = some false)
  | bool b => exact (by decide +kernel : kitB "bool" "tuple" = some false)
  | int i => exact (by decide +kernel : kitB "int" "tuple" = some false)
  | str z => exact (by decide +kernel : kitB "str" "tuple" = some false)
  | list ds => exact (by decide +kernel : kitB "list" "tuple" = some false)
  | tuple ds => exact (by decide +kernel : kitB "tuple" "tuple" = some true)
  | dict ds => exact (by decide +kernel : kitB "dict" "tuple" = some false)
theorem sx_isTup {K : PySem.W.Frag} {B H : Hp} {Q : VK} {x : V} {d : PyData} (h : Dp K B x d) (e : Ex B H) (q : Q (.bl (isTup d)) H) : rIsi K [x, .ty "tuple"] H Q := sx_isi h e (kit_tuple d) q
def isList : PyData → Bool
  | .list _ => true
  | _ => false
theorem kit_list (d : PyData) : kitB (tyD d) "list" = some (isList d) := by
  cases d with
  | none => exact (by decide +kernel : kitB "NoneType" "list" = some false)
  | bool b => exact (by decide +kernel : kitB "bool" "list" = some false)
  | int i => exact (by decide +kernel : kitB "int" "list" = some false)
  | str z => exact (by decide +kernel : kitB "str" "list" = some false)
  | list ds => exact (by decide +kernel : kitB "list" "list" = some true)
  | tuple ds => exact (by decide +kernel : kitB "tuple" "list" = some false)
  | dict ds => exact (by decide +kernel : kitB "dict" "list" = some false)
theorem sx_isList {K : PySem.W.Frag} {B H : Hp} {Q : VK} {x : V} {d : PyData} (h : Dp K B x d) (e : Ex B H) (q : Q (.bl (isList d)) H) : rIsi K [x, .ty "list"] H Q := sx_isi h e (kit_list d) q
def isDict : PyData → Bool
  | .dict _ => true
  | _ => false
theorem kit_dict (d : PyData) : kitB (tyD d) "dict" = some (isDict d) := by
  cases d with
  | none => exact (by decide +kernel : kitB "NoneType" "dict" = some false)
  | bool b => exact (by decide +kernel : kitB "bool" "dict" = some false)
  | int i => exact (by decide +kernel : kitB "int" "dict" = some false)
  | str z => exact (by decide +kernel : kitB "str" "dict" = some false)
  | list ds => exact (by decide +kernel : kitB "list" "dict" = some false)
  | tuple ds => exact (by decide +kernel : kitB "tuple" "dict" = some false)
  | dict ds => exact (by decide +kernel : kitB "dict" "dict" = some true)
theorem sx_isDict {K : PySem.W.Frag} {B H : Hp} {Q : VK} {x : V} {d : PyData} (h : Dp K B x d) (e : Ex B H) (q : Q (.bl (isDict d)) H) : rIsi K [x, .ty "dict"] H Q := sx_isi h e (kit_dict d) q

/-- what is one's own changes -/
theorem Nx.loc {M : List Addr} {B H B1 H1 B2 H2 : Hp} (n : Nx [] B H B1 H1) (m : Nx M B1 H1 B2 H2) (hM : ∀ a ∈ M, H a = none) : Nx [] B H B2 H2 :=
  ⟨n.b.trans m.b, m.h, fun a o h _ => m.k a o (n.k a o h (by simp)) (fun z => by rw [hM a z] at h; cases h), fun a h q => m.f a (n.f a h q) (by
    cases e : H a with
    | none => exact absurd e q
    | some o => rw [n.k a o e (by simp)]; exact fun z => nomatch z)⟩
theorem sx_gtup2 {K : PySem.W.Frag} {B H : Hp} {σ : L2.St} {v : V} {d1 d2 : PyData} {i j : Nat} {Q : L2.St → Hp → Prop} (h : Dp K B v (.tuple [d1, d2])) (e : Ex B H) (q : ∀ v1 v2, Dp K B v1 d1 → Dp K B v2 d2 → Q ((σ.set i (some v1)).set j (some v2)) H) :
    gTup K 2 (gCons (gName i) (gCons (gName j) gNil)) v σ H Q := by
  obtain ⟨a, xs, rfl, hs, hd⟩ := Dp.tup_v h
  cases hd with
  | cons h1 h2 =>
    cases h2 with
    | cons h2 h3 =>
      cases h3
      exact ⟨a, _, rfl, e.t hs, rfl, _, _, rfl, _, _, rfl, rfl, q _ _ h1 h2⟩
theorem szDs_app : ∀ (a b : List PyData), szDs (a ++ b) = szDs a + szDs b
  | [], b => by simp [szDs]
  | x :: r, b => by
    show szD x + szDs (r ++ b) = szD x + szDs r + szDs b
    rw [szDs_app r b]
    omega
theorem flatDs_app : ∀ (a b : List PyData), flatDs (a ++ b) = (flatDs a && flatDs b)
  | [], b => by simp [flatDs]
  | x :: r, b => by
    show (flatD x && flatDs (r ++ b)) = (flatD x && flatDs r && flatDs b)
    rw [flatDs_app r b, Bool.and_assoc]
theorem szD_pos (d : PyData) : 0 < szD d := by
  cases d <;> simp [szD]
theorem szDs_len : ∀ (a : List PyData), a.length ≤ szDs a
  | [] => Nat.zero_le _
  | x :: r => by
    have h1 := szDs_len r
    have h2 := szD_pos x
    show r.length + 1 ≤ szD x + szDs r
    omega
theorem szDs_take (a : List PyData) (n : Nat) : szDs (a.take n) ≤ szDs a := by
  have h := szDs_app (a.take n) (a.drop n)
  rw [List.take_append_drop] at h
  omega
theorem flatDs_take {a : List PyData} (h : flatDs a = true) (n : Nat) : flatDs (a.take n) = true := by
  have e := flatDs_app (a.take n) (a.drop n)
  rw [List.take_append_drop, h] at e
  exact (Bool.and_eq_true_iff.mp e.symm).1

/-- a new tuple, untold -/
theorem sx_newTp {B H : Hp} {Q : VK} {xs : List V} (e : Ex B H) (hz : xs.length ≤ 100000) (q : ∀ p H', H p = none → Nx [] B H B H' → H' p = some (.tup xs) → Q (.ref p) H') : rNewT xs H Q :=
  ⟨sz_of hz, fun p hp => q p _ hp (Nx.own e hp) upd_same⟩
theorem sx_isiT3 {K : PySem.W.Frag} {B H : Hp} {Q : VK} {x : V} {d : PyData} {p : Addr} (h : Dp K B x d) (e : Ex B H) (hp : H p = some (.tup [.ty "tuple", .ty "list", .ty "dict"])) (q : Q (.bl (isTup d || (isList d || isDict d))) H) : rIsiT K [x, .ref p] H Q :=
  ⟨x, p, _, .type (tyD d), [.type "tuple", .type "list", .type "dict"], _, rfl, hp, .cons (.ty _) (.cons (.ty _) (.cons (.ty _) .nil)), Dp.ty h e, by
    have h1 := kit_ty (K := K) (kit_tuple d)
    have h2 := kit_ty (K := K) (kit_list d)
    have h3 := kit_ty (K := K) (kit_dict d)
    simp only [PySem.W.kitAny, h1, h2, h3]
    cases isTup d <;> cases isList d <;> cases isDict d <;> rfl, q⟩

/-! ### == and != with an empty list, an empty tuple -/
def rEmL (K : PySem.W.Frag) (neg : Bool) : R2 := fun x y H Q => ∃ a b xs, x = .ref a ∧ y = .ref b ∧ SqL K H a xs ∧ SqL K H b [] ∧ Q (.bl (if neg then !xs.isEmpty else xs.isEmpty)) H
def rEmT (K : PySem.W.Frag) (neg : Bool) : R2 := fun x y H Q => ∃ a b xs, x = .ref a ∧ y = .ref b ∧ SqT K H a xs ∧ SqT K H b [] ∧ Q (.bl (if neg then !xs.isEmpty else xs.isEmpty)) H
section
variable {X : Cx}
theorem op_neNilL (hu : X.A.units + 64 < cLine) : OpR X (compareOp .NotEq) (rEmL X.K true) := by
  intro pins s σ H x y v u Q I rx ry h
  obtain ⟨a, b, xs, rfl, rfl, h1, h2, q⟩ := h
  cases rx
  cases ry
  obtain ⟨its, r1, p1, _⟩ := I.list h1
  obtain ⟨its2, r2, p2, _⟩ := I.list h2
  have e2 : its2 = [] := Vals.zero r2
  subst e2
  have hu' : X.A.units < cLine := by omega
  cases xs with
  | nil =>
    have e1 : its = [] := Vals.zero r1
    subst e1
    exact SeqAt.RcNeAt.lists (e := fun _ => true) p1.isList p2.isList rfl hu' (fun j h1 _ => absurd h1 (by simp)) X.prog X.w X.xe _ ⟨.bl false, H, I, rfl, q⟩
  | cons x r =>
    refine SeqAt.RcNeAt.lists_lengths p1.isList p2.isList ?_ hu' X.prog X.w X.xe _ ⟨.bl true, H, I, rfl, q⟩
    have := r1.length
    cases its with
    | nil => simp at this
    | cons z t => simp
theorem op_eqNilL (hu : X.A.units + 64 < cLine) : OpR X (compareOp .Eq) (rEmL X.K false) := by
  intro pins s σ H x y v u Q I rx ry h
  obtain ⟨a, b, xs, rfl, rfl, h1, h2, q⟩ := h
  cases rx
  cases ry
  obtain ⟨its, r1, p1, _⟩ := I.list h1
  obtain ⟨its2, r2, p2, _⟩ := I.list h2
  have e2 : its2 = [] := Vals.zero r2
  subst e2
  have hu' : X.A.units < cLine := by omega
  cases xs with
  | nil =>
    have e1 : its = [] := Vals.zero r1
    subst e1
    exact SeqAt.RcAt.lists (e := fun _ => true) p1.isList p2.isList rfl hu' (fun j h1 _ => absurd h1 (by simp)) X.prog X.w X.xe _ ⟨.bl true, H, I, rfl, q⟩
  | cons x r =>
    refine SeqAt.RcAt.lists_lengths p1.isList p2.isList ?_ hu' X.prog X.w X.xe _ ⟨.bl false, H, I, rfl, q⟩
    have := r1.length
    cases its with
    | nil => simp at this
    | cons z t => simp
theorem op_neNilT (hu : X.A.units + 64 < cLine) : OpR X (compareOp .NotEq) (rEmT X.K true) := by
  intro pins s σ H x y v u Q I rx ry h
  obtain ⟨a, b, xs, rfl, rfl, h1, h2, q⟩ := h
  cases rx
  cases ry
  obtain ⟨its, r1, ⟨o1, ho1, hc1, n1, hd1⟩, _⟩ := I.tuple h1
  obtain ⟨its2, r2, ⟨o2, ho2, hc2, n2, hd2⟩, _⟩ := I.tuple h2
  have e2 : its2 = [] := Vals.zero r2
  subst e2
  have hu' : X.A.units < cLine := by omega
  have t1 : s.heap.IsTuple a its.toArray := ⟨_, ho1, hc1, n1, hd1⟩
  have t2 : s.heap.IsTuple b ([] : List Value).toArray := ⟨_, ho2, hc2, n2, hd2⟩
  refine SeqAt.RcNeAt.tuples (e := fun _ => true) t1 t2 hu' (fun j _ h1 => absurd h1 (by simp)) X.prog X.w X.xe _ ⟨.bl (!xs.isEmpty), H, I, ?_, q⟩
  have := r1.length
  cases xs with
  | nil =>
    have e1 : its = [] := Vals.zero r1
    subst e1
    rfl
  | cons x r =>
    cases its with
    | nil => simp at this
    | cons z t =>
      show Value.bool _ = Value.bool _
      simp
theorem op_eqNilT (hu : X.A.units + 64 < cLine) : OpR X (compareOp .Eq) (rEmT X.K false) := by
  intro pins s σ H x y v u Q I rx ry h
  obtain ⟨a, b, xs, rfl, rfl, h1, h2, q⟩ := h
  cases rx
  cases ry
  obtain ⟨its, r1, ⟨o1, ho1, hc1, n1, hd1⟩, _⟩ := I.tuple h1
  obtain ⟨its2, r2, ⟨o2, ho2, hc2, n2, hd2⟩, _⟩ := I.tuple h2
  have e2 : its2 = [] := Vals.zero r2
  subst e2
  have hu' : X.A.units < cLine := by omega
  have t1 : s.heap.IsTuple a its.toArray := ⟨_, ho1, hc1, n1, hd1⟩
  have t2 : s.heap.IsTuple b ([] : List Value).toArray := ⟨_, ho2, hc2, n2, hd2⟩
  refine SeqAt.RcAt.tuples (e := fun _ => true) t1 t2 hu' (fun j _ h1 => absurd h1 (by simp)) X.prog X.w X.xe _ ⟨.bl xs.isEmpty, H, I, ?_, q⟩
  have := r1.length
  cases xs with
  | nil =>
    have e1 : its = [] := Vals.zero r1
    subst e1
    rfl
  | cons x r =>
    cases its with
    | nil => simp at this
    | cons z t =>
      show Value.bool _ = Value.bool _
      simp
end
section
variable {K : PySem.W.Frag} {B H : Hp} {Q : VK} {x y : V}
theorem sx_emL {neg : Bool} {a b : Addr} {xs : List V} (h1 : SqL K H a xs) (h2 : SqL K H b []) (q : Q (.bl (if neg then !xs.isEmpty else xs.isEmpty)) H) : rEmL K neg (.ref a) (.ref b) H Q := ⟨a, b, xs, rfl, rfl, h1, h2, q⟩
theorem sx_neTd {ds : List PyData} (h1 : Dp K B x (.tuple ds)) (e : Ex B H) {b : Addr} (h2 : H b = some (.tup [])) (q : Q (.bl (!ds.isEmpty)) H) : rEmT K true x (.ref b) H Q := by
  obtain ⟨a, xs, rfl, hs, hd⟩ := Dp.tup_v h1
  refine ⟨a, b, xs, rfl, rfl, e.t hs, SqT.of h2, ?_⟩
  have := Dps.len hd
  cases xs <;> cases ds <;> simp_all
/-! in a display of texts -/
theorem inV_str (z : Str) (ss : List Str) : inV (.str z) (ss.map V.str) = decide (z ∈ ss) := by
  unfold inV
  induction ss with
  | nil => rfl
  | cons s r ih =>
    rw [List.map_cons, List.any_cons, ih]
    have : eqV (.str s) (.str z) = decide (s = z) := by
      show (s == z) = decide (s = z)
      rw [Bool.eq_iff_iff, beq_iff_eq, decide_eq_true_iff]
    rw [this]
    by_cases h : z = s
    · subst h; simp
    · have h' : ¬ s = z := fun e => h e.symm
      simp [h, h']
theorem flat_strs (ss : List Str) : (ss.map V.str).all flatV = true := by
  induction ss with
  | nil => rfl
  | cons s r ih => rw [List.map_cons, List.all_cons, ih]; rfl
theorem sx_inTs {p : Addr} {z : Str} (ss : List Str) (h : SqT K H p (ss.map V.str)) (q : Q (.bl (decide (z ∈ ss))) H) : rIn K false (.str z) (.ref p) H Q :=
  ⟨p, _, rfl, .inr h, rfl, flat_strs ss, by simp only [Bool.false_eq_true, if_false, inV_str]; exact q⟩
theorem sx_inLs {p : Addr} {z : Str} (ss : List Str) (h : SqL K H p (ss.map V.str)) (q : Q (.bl (decide (z ∈ ss))) H) : rIn K false (.str z) (.ref p) H Q :=
  ⟨p, _, rfl, .inl h, rfl, flat_strs ss, by simp only [Bool.false_eq_true, if_false, inV_str]; exact q⟩
end

theorem sx_neLd {K : PySem.W.Frag} {B H : Hp} {Q : VK} {neg : Bool} {b : Addr} {xs : List V} {l : Addr} (m : Mu B H l xs) (h2 : SqL K H b []) (q : Q (.bl (if neg then !xs.isEmpty else xs.isEmpty)) H) : rEmL K neg (.ref l) (.ref b) H Q := ⟨l, b, xs, rfl, rfl, m.sq, h2, q⟩

theorem at0 {α : Type} {x : α} {r : List α} : atI (x :: r) 0 = some x := atI_nat (j := 0) rfl
theorem at1 {α : Type} {x y : α} {r : List α} : atI (x :: y :: r) 1 = some y := atI_nat (j := 1) rfl
theorem at2 {α : Type} {x y z : α} {r : List α} : atI (x :: y :: z :: r) 2 = some z := atI_nat (j := 2) rfl

theorem sx_catT {K : PySem.W.Frag} {B H : Hp} {Q : VK} {a b : Addr} {xs ys : List V} (e : Ex B H) (h1 : SqT K H a xs) (h2 : SqT K H b ys) (hx : xs ≠ []) (hy : ys ≠ []) (hz : xs.length + ys.length ≤ 100000)
    (q : ∀ p H', H p = none → Nx [] B H B H' → H' p = some (.tup (xs ++ ys)) → Q (.ref p) H') : rCatT K (.ref a) (.ref b) H Q :=
  ⟨a, b, xs, ys, rfl, rfl, h1, h2, hx, sz_of hz, fun z => absurd z hy, fun _ p hp => q p _ hp (Nx.own e hp) upd_same⟩
theorem sx_extend {B H : Hp} {Q : VK} {l b : Addr} {xs ys : List V} (m : Mu B H l xs) (e : Ex B H) (hb : H b = some (.lst ys)) (hz : xs.length + ys.length ≤ 100000) (q : ∀ H', Nx [l] B H B H' → Mu B H' l (xs ++ ys) → Q .non H') : rExtend (.ref l) [.ref b] H Q :=
  ⟨l, b, xs, ys, rfl, rfl, m.h, hb, sz_of hz, q _ (m.put e) m.set⟩

section
variable {K : PySem.W.Frag} {B H : Hp} {Q : VK} {x : V}
theorem cut_from1 (xs : List V) : cutV xs (some 1) none = xs.drop 1 := by
  unfold cutV
  rw [show HT.sIx xs.length 0 (some 1) = min 1 xs.length from HT.sIx_nat xs.length 0 1, HT.sIx_none]
  cases xs with
  | nil => rfl
  | cons x r =>
    rw [show min 1 (x :: r).length = 1 by rw [List.length_cons]; omega]
    show (List.take ((x :: r).length - 1) r) = r
    rw [List.length_cons, Nat.add_sub_cancel]
    exact List.take_length
/-- t[1:] -/
theorem sx_tail {d : PyData} {ds : List PyData} (h : Dp K B x (.tuple (d :: ds))) (e : Ex B H) (q : ∀ p B' H', H p = none → Nx [] B H B' H' → Dp K B' (.ref p) (.tuple ds) → Q (.ref p) H') : rSlT K x (some 1) none H Q := by
  obtain ⟨a, xs, rfl, hs, hd⟩ := Dp.tup_v h
  have hl := Dps.len hd
  refine ⟨a, xs, rfl, e.t hs, fun z => ?_, fun p hp => ?_⟩
  · have := z.1
    rw [show HT.sIx xs.length 0 (some 1) = min 1 xs.length from HT.sIx_nat xs.length 0 1, hl, List.length_cons] at this
    omega
  · rw [cut_from1]
    have hd' := Dps.drop 1 hd
    exact q p (upd B p (.tup (xs.drop 1))) _ hp (Nx.new e hp) (.tup (SqT.of upd_same) (Dps.up (Ex.new (e.free hp)) hd'))
theorem sx_listTd {ds : List PyData} (h : Dp K B x (.tuple ds)) (e : Ex B H) (q : ∀ l xs H', H l = none → Nx [] B H B H' → Mu B H' l xs → DpAll K B xs ds → Q (.ref l) H') : rListOf K [x] H Q := by
  obtain ⟨a, xs, rfl, hs, hd⟩ := Dp.tup_v h
  exact sx_listOf e (.inr (e.t hs)) fun l H' h1 h2 h3 => q l xs H' h1 h2 h3 hd
theorem sx_cat {l b : Addr} {xs ys : List V} (e : Ex B H) (h1 : H l = some (.lst xs)) (h2 : H b = some (.lst ys)) (hz : xs.length + ys.length ≤ 100000) (q : ∀ p H', H p = none → Nx [] B H B H' → Mu B H' p (xs ++ ys) → Q (.ref p) H') : rCat (.ref l) (.ref b) H Q :=
  ⟨l, b, xs, ys, rfl, rfl, h1, h2, sz_of hz, fun p hp => q p _ hp (Nx.own e hp) (Mu.new e hp)⟩
end
theorem sx_yes {σ : L2.St} {H : Hp} {R : Bool → Hp → Prop} (q : R true H) : tYes σ H R := q

/-- sorted of two ints -/
theorem sorted2 {ns : List Int} {i j : Int} (h : ns.Perm [i, j]) (k : ns.Pairwise (· ≤ ·)) : ns = [if j < i then j else i, if j > i then j else i] := by
  have hl := h.length_eq
  match ns, hl with
  | [x, y], _ =>
    have hxy : x ≤ y := by
      cases k with
      | cons a _ => exact a y (by simp)
    have hx : x ∈ [i, j] := h.mem_iff.mp (by simp)
    simp only [List.mem_cons, List.not_mem_nil, or_false] at hx
    rcases hx with rfl | rfl
    · have h2 := (List.perm_cons x).mp h
      have : y ∈ [j] := h2.mem_iff.mp (by simp)
      rw [List.mem_singleton] at this
      subst this
      rw [if_neg (by omega)]
      by_cases h : y > x
      · rw [if_pos h]
      · rw [if_neg h, show y = x by omega]
    · have h2 := (List.perm_cons x).mp (h.trans (List.Perm.swap x i []))
      have : y ∈ [i] := h2.mem_iff.mp (by simp)
      rw [List.mem_singleton] at this
      subst this
      rw [if_neg (show ¬ x > y by omega)]
      by_cases h : x < y
      · rw [if_pos h]
      · rw [if_neg h, show x = y by omega]
theorem sx_sorted2 {K : PySem.W.Frag} {B H : Hp} {Q : VK} {a : Addr} {i j : Int} (e : Ex B H) (h : SqL K H a [.int i, .int j]) (q : ∀ p H', H p = none → Nx [] B H B H' → Mu B H' p [.int (if j < i then j else i), .int (if j > i then j else i)] → Q (.ref p) H') : rSorted K [.ref a] H Q :=
  ⟨a, [i, j], rfl, h, by show 2 < 64; omega, fun ns p hp hs hn => by
    have := sorted2 hp hs
    subst this
    exact q p _ hn (Nx.own e hn) (Mu.new e hn)⟩
/-! ### within a comprehension: the fragment told ahead -/
section
variable {X : Cx} {K : PySem.W.Frag}
theorem k_isi (h : X.K = K) : CallR X (.builtin "isinstance") (rIsi K) := h ▸ call_isi
theorem k_isiT (h : X.K = K) : CallR X (.builtin "isinstance") (rIsiT K) := h ▸ call_isiT
theorem k_len (h : X.K = K) : CallR X (.builtin "len") (rLen K) := h ▸ cl_len
theorem k_list (h : X.K = K) : CallR X (.type "list") (rListOf K) := h ▸ cl_list
theorem k_tuple (h : X.K = K) : CallR X (.type "tuple") (rTupOf K) := h ▸ cl_tuple
theorem k_ixL (h : X.K = K) : IxR X (rIxL K) := h ▸ ix_list
theorem k_ixT (h : X.K = K) : IxR X (rIxT K) := h ▸ ix_tup
theorem k_in (h : X.K = K) : OpR X (compareOp .In) (rIn K false) := h ▸ op_in_seq
theorem k_nin (h : X.K = K) : OpR X (compareOp .NotIn) (rIn K true) := h ▸ op_notIn_seq
/-- [x for x in t if isinstance(x, tuple)] -/
theorem sx_lcTups {a : Addr} {xs : List V} {ds : List PyData} {j : Nat} {tt : TT} {te : TE} {vs : List Nat} {σ : L2.St} {B H : Hp} {Q : VK} (e : Ex B H) (hx : SqT K B a xs) (hd : DpAll K B xs ds) (hz : ds.length ≤ 100000)
    (hw : ∀ x, wipe ((wipe σ vs).set j (some x)) vs = wipe σ vs)
    (ht : ∀ x d, Dp K B x d → ∀ H1 (R : Bool → Hp → Prop), Ex B H1 → R (isTup d) H1 → tt ((wipe σ vs).set j (some x)) H1 R)
    (he : ∀ x ∈ xs, ∀ H1 (R : VK), Ex B H1 → R x H1 → te ((wipe σ vs).set j (some x)) H1 R)
    (q : ∀ p ys H', H p = none → Nx [] B H B H' → Mu B H' p ys → DpAll K B ys (ds.filter isTup) → Q (.ref p) H') : rLcT K (gName j) tt te vs σ (.ref a) H Q := by
  have hl := Dps.len hd
  refine sx_lcT_by (e.t hx) (fun L i H' => H L = none ∧ ∃ ys, Nx [] B H B H' ∧ Mu B H' L ys ∧ DpAll K B ys ((ds.take i).filter isTup)) (fun L hL => ⟨hL, [], Nx.own e hL, Mu.new e hL, .nil⟩) (fun L i H' _ ⟨_, ys, n, _, _⟩ => n.h.t hx) (fun L i x H1 hi p => ?_) (fun L H' ⟨hL, ys, n, m, d⟩ => ?_)
  · obtain ⟨hL, ys, n, m, d⟩ := p
    have hm : x ∈ xs := List.mem_of_getElem? hi
    obtain ⟨d1, e1, hd1⟩ := Dps.got hd hi
    have et : (ds.take (i + 1)).filter isTup = (ds.take i).filter isTup ++ if isTup d1 then [d1] else [] := by
      rw [List.take_add_one, e1, List.filter_append]
      cases z : isTup d1 <;> simp [z]
    refine sx_gname ⟨hw x, ht x d1 hd1 H1 _ n.h ?_⟩
    rw [et]
    cases z : isTup d1 with
    | false =>
      refine ifF rfl ?_
      exact ⟨hL, ys, n, m, by simpa using d⟩
    | true =>
      refine ifT rfl (he x hm H1 _ n.h ?_)
      have hlen := Dps.len d
      have h2 := List.length_filter_le isTup (ds.take i)
      have h3 := List.length_take_le i ds
      have h4 := (List.getElem?_eq_some_iff.mp hi).1
      rw [List.length_take] at h2
      refine sx_lcEnd (P := fun H' => H L = none ∧ ∃ ys, Nx [] B H B H' ∧ Mu B H' L ys ∧ DpAll K B ys ((ds.take i).filter isTup ++ if true = true then [d1] else [])) m n.h (by omega) fun H2 n2 m2 => ⟨hL, ys ++ [x], n.loc n2 (by simp [hL]), m2, Dps.app d (Dps.one hd1)⟩
  · exact q L ys H' hL n m (by rw [hl, List.take_length] at d; exact d)
end
end G

/-! GR: tuples whose object is known: displays, tuple(list), t[::-1], dict(t). -/
namespace L2.HT
open PySem PySem.Spec PyProof.Rows
end L2.HT
namespace G
open PySem PySem.Spec PyProof.Rows L2
section
variable {prog : Program} {w : World} {A : Around} {E : Value → Shared → Prop} {s : Shared}
theorem rev_adjust (n : Nat) : Builtin.Slice.sliceAdjust none none (-1) (n : Int) = ((n : Int) - 1, -1) := by
  unfold Builtin.Slice.sliceAdjust
  rfl
theorem rev_places (n : Nat) : Builtin.Slice.slicePlaces ((n : Int) - 1) (-1) (-1) = n := by
  unfold Builtin.Slice.slicePlaces
  have h1 : ¬ ((-1 : Int) > 0) := by omega
  simp only [h1, if_false]
  have e : ((n : Int) - 1 - -1 - 1) / (- -1) = (n : Int) - 1 := by
    rw [show (- -1 : Int) = 1 by decide, Int.ediv_one]
    omega
  split
  · rw [e]
    omega
  · omega
theorem fm_congr {α β : Type} {f g : α → Option β} : ∀ {l : List α}, (∀ m ∈ l, f m = g m) → l.filterMap f = l.filterMap g
  | [], _ => rfl
  | x :: r, h => by
    rw [List.filterMap_cons, List.filterMap_cons, h x List.mem_cons_self, fm_congr fun m hm => h m (List.mem_cons_of_mem _ hm)]
theorem rev_pick (xs : Array Value) : ((List.range xs.size).filterMap fun (m : Nat) => xs[(((xs.size : Int) - 1) + (m : Int) * (-1)).toNat]?).toArray = xs.toList.reverse.toArray := by
  have e : (List.range xs.size).filterMap (fun (m : Nat) => xs[(((xs.size : Int) - 1) + (m : Int) * (-1)).toNat]?) = ((List.range xs.size).map fun k => xs.size - 1 - k).filterMap (xs[·]?) := by
    rw [List.filterMap_map]
    refine fm_congr fun m hm => ?_
    have := List.mem_range.mp hm
    show xs[_]? = xs[xs.size - 1 - m]?
    congr 1
    omega
  rw [e, PySem.W.krv_range, List.filterMap_reverse, PySem.W.krv_all]
theorem getItem_tuple_rev {t sl : Addr} {items : Array Value} {u : Tok} {Q : Value → Shared → Prop} (ht : IsTup s.heap t items) (hs : s.heap.IsSliceOf sl .none .none (.int (-1) u))
    (h : Q (.ref s.heap.objs.size) { s with heap := s.heap.push { cls := .type "tuple", data := .seq items.toList.reverse.toArray } }) (hsz : items.size ≤ sizeLine) : wpAny (model prog w) A (getItem (.ref t) (.ref sl)) Q E s := by
  have htake : sizeOk (.seq items.toList.reverse.toArray) := by
    show items.toList.reverse.toArray.size ≤ sizeLine
    rw [List.size_toArray, List.length_reverse, Array.length_toList]
    exact hsz
  obtain ⟨os, hos, hcs, hds⟩ := id hs
  have hTs : s.TypeIs (.ref sl) "slice" := ⟨os, hos, hcs⟩
  unfold getItem
  try with_reducible refine wpAny_holding ?_
  first | refine wpAny_bind (wpAny_pure ?_) | skip
  refine wpAny_bind (wpAny_sequenceKey ht.typeIs (by decide) ?_)
  refine wpAny_bind (wpAny_callSpecial?_slot (name := Str.ofString "__getitem__") ht.typeIs PyProof.Rows.slot_tuple_getitem
    (wpAny_call_entry PyProof.Rows.slot_tuple_getitem ht.typeIs entry_tuple_getitem ?_ (args_tuple_getitem _ _)))
  show wpAny _ _ (Builtin.Tuple.tupleItemsOf (.ref t) >>= _) _ _ s
  refine wpAny_bind (tupleItemsOf_ ht ?_)
  refine wpAny_bind (wpAny_typeOf hTs ?_)
  rw [if_pos (by decide)]
  have ap : ∀ {Q : Int × Int × Nat → Shared → Prop}, Q ((items.size : Int) - 1, -1, items.size) s → wpAny (model prog w) A.in1 (Builtin.Slice.sliceApplied (.ref sl) (pure (items.size : Int))) Q
      (fun e s' => E e s') s → True := fun _ _ => trivial
  refine wpAny_bind ?_
  unfold Builtin.Slice.sliceApplied Builtin.Slice.sliceFields
  refine wpAny_bind (wpAny_bind (wpAny_field hos hds (x := .none) rfl (wpAny_bind (wpAny_field hos hds (x := .none) rfl (wpAny_bind (wpAny_field hos hds (x := .int (-1) u) rfl (wpAny_pure ?_)))))))
  refine wpAny_bind (slicePart_int ?_)
  show wpAny _ _ (if ((-1 : Int) == 0) = true then _ else _) _ _ s
  rw [if_neg (by decide)]
  refine wpAny_bind (slicePart_none (wpAny_bind (slicePart_none (wpAny_bind (wpAny_pure ?_)))))
  show wpAny _ _ (match Builtin.Slice.sliceAdjust none none (-1) (items.size : Int) with | (lo, hi) => pure (lo, (-1 : Int), Builtin.Slice.slicePlaces lo hi (-1))) _ _ s
  rw [rev_adjust]
  show wpAny _ _ (pure ((items.size : Int) - 1, (-1 : Int), Builtin.Slice.slicePlaces ((items.size : Int) - 1) (-1) (-1))) _ _ s
  rw [rev_places]
  refine wpAny_pure ?_
  have hno : ¬ ((((items.size : Int) - 1) == 0 && (-1 : Int) == 1 && items.size == items.size) = true) := by simp
  show wpAny _ _ (if (((items.size : Int) - 1) == 0 && (-1 : Int) == 1 && items.size == items.size) = true then _ else _) _ _ s
  rw [if_neg hno, rev_pick]
  first
    | exact wpAny_bind (m := Builtin.Tuple.tupleExact _) (wpAny_newObj_type (wpAny_pure ⟨_, rfl, wpAny_pure h⟩) htake)
    | exact wpAny_bind (m := Builtin.Tuple.tupleExact _) (wpAny_newObj_type (wpAny_bind (wpAny_pure (wpAny_pure ⟨_, rfl, wpAny_pure h⟩))) htake)
    | exact wpAny_bind (wpAny_bind (m := Builtin.Tuple.tupleExact _) (wpAny_newObj_type (wpAny_pure (wpAny_pure ⟨_, rfl, wpAny_pure h⟩)) htake))
    | exact wpAny_bind (wpAny_bind (m := Builtin.Tuple.tupleExact _) (wpAny_newObj_type (wpAny_pure ⟨_, rfl, wpAny_pure h⟩) htake))
end
/-- a tuple whose object is known to have no dict -/
def TupO (o : Obj) : Prop := o.dict = none ∧ o.cls = .type "tuple" ∧ o.slots = #[]
section
variable {X : Cx} {es : List Expr} {e : Expr} {pos : Pos} {t : TA} {te : TE}
def rNewF (xs : List V) (H : Hp) (Q : VK) : Prop := xs.length ≤ sizeLine ∧ ∀ p o, H p = none → TupO o → Q (.ref p) (upd H p (.frz o (.tup xs)))
def tTupF (t : TA) : TE := fun σ H Q => t σ H fun xs H1 => rNewF xs H1 Q
theorem pe_tupF {x1} (h : PA X es t) : PE X (.Tuple es x1 pos) (tTupF t) := by
  refine ⟨fun pins s σ H Q I hq => ?_⟩
  refine wpAny_Tuple_spliced (thn (h.run pos pins s σ H _ I hq) fun us s1 ⟨xs, H1, I1, r, z, q⟩ => ⟨by rw [← r.length]; exact z, ?_⟩)
  have hf : H1 s1.heap.objs.size = none := I1.hok.fresh (Nat.le_refl _)
  refine ⟨.ref s1.heap.objs.size, upd H1 s1.heap.objs.size (.frz { cls := .type "tuple", data := .seq us.toArray } (.tup xs)), I1.laid (t' := s1.toks) (fun b u e => Heap.get?_push_of_some _ e) (Nat.le_refl _) ?_, rfl, q _ _ hf ⟨rfl, rfl, rfl⟩⟩
  exact ⟨Heap.get?_push_size _ rfl, z, us, r, ⟨_, Heap.get?_push_size _ rfl, rfl, _, rfl⟩⟩
/-- tuple(a list) -/
def rTupF (K : PySem.W.Frag) : List V → Hp → VK → Prop := fun xs H Q => ∃ p ys, xs = [.ref p] ∧ SqL K H p ys ∧ ∀ l o, H l = none → TupO o → Q (.ref l) (upd H l (.frz o (.tup ys)))
theorem cl_tupleF : CallR X (.type "tuple") (rTupF X.K) := by
  intro pins s σ H xs us Q I r h
  obtain ⟨p, ys, rfl, hq, q⟩ := h
  obtain ⟨u, rfl, rx⟩ := vals1 r
  cases rx
  obtain ⟨its, r', pl, hz⟩ := I.list hq
  have hlen := r'.length
  refine call_tuple_list pl.isList (fun h' kp => ?_) (by simp only [List.size_toArray] <;> omega)
  have I1 : Inv X pins σ H { s with heap := h' } := I.kept (t' := s.toks) kp
  have I2 : Inv X pins σ (upd H h'.objs.size (.frz { cls := .type "tuple", data := .seq its.toArray } (.tup ys))) { s with heap := h'.push { cls := .type "tuple", data := .seq its.toArray } } :=
    I1.laid (t' := s.toks) (fun b o e => Heap.get?_push_of_some _ e) (Nat.le_refl _) (show ObjOk X.prog X.w _ _ _ (.frz _ (.tup ys)) from ⟨Heap.get?_push_size _ rfl, hz, its, r', IsTup.new _ _⟩)
  exact ⟨.ref h'.objs.size, _, I2, rfl, q _ _ (I1.hok.fresh (Nat.le_refl _)) ⟨rfl, rfl, rfl⟩⟩
/-- t[::-1] -/
def rRevT (K : PySem.W.Frag) : V → Hp → VK → Prop := fun x H Q => ∃ a xs, x = .ref a ∧ SqT K H a xs ∧ ∀ p o, H p = none → TupO o → Q (.ref p) (upd H p (.frz o (.tup xs.reverse)))
def tRevT (K : PySem.W.Frag) (te : TE) : TE := fun σ H Q => te σ H fun x H1 => rRevT K x H1 Q
theorem pe_revT {k : Nat} {p1 p2 p3 : Pos} (he : PE X e te) : PE X (.Subscript e (.Slice none none (some (.UnaryOp .USub (.Constant (.int 1) k p1) p2)) p3) pos) (tRevT X.K te) := by
  refine ⟨fun pins s σ H Q I h => ?_⟩
  refine Subscript_ (thn (he.run pins s σ H _ I h) fun v s1 ⟨x, H1, I1, r1, q1⟩ => ?_)
  obtain ⟨a, xs, ex, hx, q⟩ := q1
  subst ex
  cases r1
  have hst : PO X (some (.UnaryOp .USub (.Constant (.int 1) k p1) p2)) (tPart (tUn (rU fun i => .int (-i)) (tC (.int 1)))) := po_some (pe_un un_neg pe_int)
  refine wpAny_Slice (thn (po_none.run pins s1 σ H1 (fun o H2 => o = none ∧ H2 = H1) I1 ⟨rfl, rfl⟩) fun vl s2 ⟨l, H2, I2, pl, el, e2⟩ => ?_)
  subst el e2
  refine thn (po_none.run pins s2 σ H2 (fun o H3 => o = none ∧ H3 = H2) I2 ⟨rfl, rfl⟩) fun vu s3 ⟨u, H3, I3, pu, eu, e3⟩ => ?_
  subst eu e3
  refine thn (hst.run pins s3 σ H3 (fun o H4 => o = some (-1) ∧ H4 = H3) I3 ⟨1, rfl, -1, rfl, rfl, rfl⟩) fun vs s4 ⟨o, H4, I4, ps, eo, e4⟩ => ?_
  subst eo e4
  have I5 : Inv X pins σ H4 { s4 with heap := s4.heap.push { cls := .type "slice", data := .fields #[vl, vu, vs] } } := I4.kept (t' := s4.toks) fun b ob q => Heap.get?_push_of_some _ q
  obtain ⟨its, r, ht, hz⟩ := I5.tuple hx
  have hlen := r.length
  cases pl
  cases pu
  cases ps with
  | int _ tk =>
    show wpAny (model X.prog X.w) X.A (subscriptTail e (.Slice none none (some (.UnaryOp .USub (.Constant (.int 1) k p1) p2)) p3) (.ref a) (.ref s4.heap.objs.size)) (EP X pins σ Q) X.xe { s4 with heap := s4.heap.push { cls := .type "slice", data := .fields #[.none, .none, .int (-1) tk] } }
    refine tail_any (ops := [.ref a, .ref s4.heap.objs.size]) ht.typeIs (PyProof.Rows.slot_tuple_getitem.lookup) ?_ (by with_unfolding_all rfl)
    refine getItem_tuple_rev ht (Heap.IsSliceOf.new _ .none .none (.int (-1) tk)) ?_ (by rw [List.size_toArray]; omega)
    refine ⟨.ref _, _, I5.laid (t' := s4.toks) (o := .frz { cls := .type "tuple", data := .seq its.reverse.toArray } (.tup xs.reverse)) (fun b ob q => Heap.get?_push_of_some _ q) (Nat.le_refl _) ?_, rfl, q _ _ (I5.hok.fresh (Nat.le_refl _)) ⟨rfl, rfl, rfl⟩⟩
    exact ⟨Heap.get?_push_size _ rfl, by rw [List.length_reverse]; exact hz, _, r.reverse, _, Heap.get?_push_size _ rfl, rfl, _, rfl⟩
theorem pairs_of2 {pins : List (Addr × Obj)} {σ : L2.St} {H : Hp} {s : Shared} (I : Inv X pins σ H s) : ∀ {ps : List Addr} {kvs : List (Key × V)}, Paired (fun p kv => SqT X.K H p [kV kv.1, kv.2]) ps kvs →
    ∃ (prs : List (Key × Value)) (vps : List (Value × Value)), KV kvs prs ∧ prs.length = ps.length ∧ vps.length = ps.length ∧ ∀ (j : Nat) (k v : Value), vps[j]? = some (k, v) → ∃ (b : Addr) (key : Key), ps[j]? = some b ∧ IsTup s.heap b #[k, v] ∧ prs[j]? = some (key, v) ∧ keyIs key k = true
  | _, _, .nil => ⟨[], [], .nil, rfl, rfl, fun j k v e => by simp at e⟩
  | _, _, .cons (a := p) (b := kv) h t => by
    obtain ⟨prs, vps, r, hl, hl2, hp⟩ := pairs_of2 I t
    obtain ⟨its, rv, ht, _⟩ := I.tuple h
    obtain ⟨u, y, ei, ru, ry⟩ := vals2 rv
    subst ei
    refine ⟨(kv.1, y) :: prs, (u, y) :: vps, .cons ⟨rfl, ry⟩ r, by rw [List.length_cons, List.length_cons, hl], by rw [List.length_cons, List.length_cons, hl2], fun j k v e => ?_⟩
    cases j with
    | zero =>
      have e' : (u, y) = (k, v) := Option.some.inj e
      cases e'
      refine ⟨p, kv.1, rfl, ht, rfl, ?_⟩
      cases hk : kv.1 with
      | inl i =>
        rw [hk] at ru
        obtain ⟨tk, rfl⟩ := (show ∃ t, u = Value.int i t from ru)
        exact keyIs_int i tk
      | inr z =>
        rw [hk] at ru
        obtain ⟨tk, rfl⟩ := (show ∃ t, u = Value.str z t from ru)
        exact keyIs_str z tk
    | succ j => exact hp j k v e
/-- dict(a tuple of pairs) -/
def rDictT (K : PySem.W.Frag) : List V → Hp → VK → Prop := fun xs H Q => ∃ (a : Addr) (o : Obj) (ps : List Addr) (kvs : List (Key × V)), xs = [.ref a] ∧ H a = some (.frz o (.tup (ps.map V.ref))) ∧ TupO o ∧ Paired (fun p kv => SqT K H p [kV kv.1, kv.2]) ps kvs ∧
  ∀ p, H p = none → Q (.ref p) (upd H p (.dK (mergeK [] kvs)))
theorem cl_dictT (hcalm : X.calm = true) : CallR X (.type "dict") (rDictT X.K) := by
  intro pins s σ H xs us Q I r q
  obtain ⟨a, o, ps, kvs, ex, hq, to, hp, q⟩ := q
  subst ex
  obtain ⟨u, eu, rx⟩ := vals1 r
  subst eu
  cases rx
  obtain ⟨ho, hz, its, rv, o2, ho2, hc2, n, hd2⟩ := (show ObjOk X.prog X.w H s.heap a (.frz o (.tup (ps.map V.ref))) from I.hok a _ hq)
  rw [ho] at ho2
  cases ho2
  have ei := refs_at rv
  subst ei
  rw [List.length_map] at hz
  obtain ⟨prs, vps, rel, hl, hl2, hpr⟩ := pairs_of2 I hp
  have ok : PlainSeq "tuple" s.heap a (ps.map Value.ref).toArray ∧ PairItems s.heap (ps.map Value.ref).toArray (fun j => (ps[j]?).getD 0) vps :=
    ⟨⟨o, n, ho, to.2.1, to.1, hd2⟩, by simp [hl2], fun j k v e => by
      obtain ⟨b, key, e1, e2, e3, e4⟩ := hpr j k v e
      refine ⟨by simp [e1], .inl ?_⟩
      obtain ⟨ob, q1, q2, q3⟩ := e2
      exact ⟨ob, by simpa [e1] using q1, q2, q3⟩⟩
  refine PySem.call_dict_pairs (knd := mixKind X.prog X.w) (kvs := prs) (PairArg.tuple a _ _ vps) (I.ok.hd hcalm) ok ⟨by rw [hl, hl2], fun i key v e => ?_⟩ (by rw [hl2]; exact hz) fun h' tk hd' k => ?_
  · obtain ⟨b, ky, e1, e2, e3, e4⟩ := hpr i key v e
    exact ⟨ky, e3, e4⟩
  · have k : ∀ b o, s.heap.get? b = some o → h'.get? b = some o := fun b o e => k b o (by simp) e
    have hm : (s.heap.objs.size == sysModules) = false := beq_eq_false_iff_ne.mpr (Nat.ne_of_gt I.big)
    have hlen : (mergeK [] kvs).length ≤ sizeLine := by
      refine Nat.le_trans (length_mergeK kvs []) ?_
      rw [List.length_nil, Nat.zero_add, rel.length, hl]
      exact hz
    exact ⟨.ref s.heap.objs.size, upd H s.heap.objs.size (.dK (mergeK [] kvs)), I.laid (t' := tk) k (Nat.le_refl _) (show ObjOk X.prog X.w _ _ _ (.dK (mergeK [] kvs)) from ⟨hlen, hm, merged [] prs, KV.merge rel .nil, hd'⟩), rfl, q _ (I.hok.fresh (Nat.le_refl _))⟩
end
section
variable {K : PySem.W.Frag} {B H : Hp} {Q : VK} {σ : L2.St} {t : TA} {te : TE}
theorem sx_tupF (q : t σ H fun xs H1 => rNewF xs H1 Q) : tTupF t σ H Q := q
theorem sx_revT (q : te σ H fun x H1 => rRevT K x H1 Q) : tRevT K te σ H Q := q
theorem fz_dp {p : Addr} {o : Obj} {xs : List V} {ds : List PyData} (e : Ex B H) (hp : H p = none) (hd : DpAll K B xs ds) : Dp K (upd B p (.frz o (.tup xs))) (.ref p) (.tuple ds) :=
  .tup (.inl (.inr ⟨o, upd_same⟩)) (Dps.up (Ex.new (e.free hp)) hd)
theorem sx_newF {xs : List V} {ds : List PyData} (e : Ex B H) (hd : DpAll K B xs ds) (hz : ds.length ≤ 100000) (q : ∀ p o B' H', H p = none → Nx [] B H B' H' → Dp K B' (.ref p) (.tuple ds) → B' p = some (.frz o (.tup xs)) → TupO o → Q (.ref p) H') : rNewF xs H Q :=
  ⟨sz_of (by rw [Dps.len hd]; exact hz), fun p o hp to => q p o _ _ hp (Nx.new e hp) (fz_dp e hp hd) upd_same to⟩
theorem sx_tupOfF {a : Addr} {xs : List V} {ds : List PyData} (e : Ex B H) (h : SqL K H a xs) (hd : DpAll K B xs ds) (q : ∀ p o B' H', H p = none → Nx [] B H B' H' → Dp K B' (.ref p) (.tuple ds) → B' p = some (.frz o (.tup xs)) → TupO o → Q (.ref p) H') : rTupF K [.ref a] H Q :=
  ⟨a, xs, rfl, h, fun p o hp to => q p o _ _ hp (Nx.new e hp) (fz_dp e hp hd) upd_same to⟩
theorem sx_revTF {a : Addr} {xs : List V} {ds : List PyData} (e : Ex B H) (h : SqT K H a xs) (hd : DpAll K B xs ds) (q : ∀ p o B' H', H p = none → Nx [] B H B' H' → Dp K B' (.ref p) (.tuple ds.reverse) → B' p = some (.frz o (.tup xs.reverse)) → TupO o → Q (.ref p) H') : rRevT K (.ref a) H Q :=
  ⟨a, xs, rfl, h, fun p o hp to => q p o _ _ hp (Nx.new e hp) (fz_dp e hp (Dps.rev hd)) upd_same to⟩
theorem sx_dictT {a : Addr} {o : Obj} {ps : List Addr} {kvs : List (Key × V)} (e : Ex B H) (hb : B a = some (.frz o (.tup (ps.map V.ref)))) (to : TupO o) (hp : Paired (fun p kv => SqT K B p [kV kv.1, kv.2]) ps kvs)
    (q : ∀ p B' H', H p = none → Nx [] B H B' H' → B' p = some (.dK (mergeK [] kvs)) → Q (.ref p) H') : rDictT K [.ref a] H Q :=
  ⟨a, o, ps, kvs, rfl, e _ _ hb, to, Paired.mapP hp fun _ _ z => e.t z, fun p h => q p _ _ h (Nx.new e h) upd_same⟩
theorem sx_dget {td ty : TE} (q : td σ H fun x H1 => ty σ H1 fun y H2 => ∃ a v, x = .ref a ∧ DGet H2 a y (some v) ∧ Q v H2) : tDGet td ty σ H Q := q
theorem sx_dgetS {a : Addr} {kvs : List (Key × V)} {z : Str} {v : V} (e : Ex B H) (hb : B a = some (.dK kvs)) (hv : valV kvs (.inr z) = some v) {Q : V → Prop} (q : Q v) : ∃ a' v, V.ref a = .ref a' ∧ DGet H a' (.str z) (some v) ∧ Q v :=
  ⟨a, v, rfl, by
    have := DGet.k (k := Sum.inr z) (e _ _ hb)
    rw [hv] at this
    exact this, q⟩
/-! ### a dict of the top, texts to defs -/
def KFn (K : PySem.W.Frag) (w : World) (mg : Str → Option Value) (a : Addr) (k x : Str) : Prop := ∃ f, mg x = some (.ref f) ∧ KDct K w a k (.ref f)
def tGD (K : PySem.W.Frag) (w : World) (mg : Str → Option Value) (ps : List (Str × Str)) : TE := fun _ H Q => ∀ a, (∀ q ∈ ps, KFn K w mg a q.1 q.2) → Q (.ref a) H
theorem pe_gD {X : Cx} {x : Str} {pos : Pos} {ps : List (Str × Str)} (hg : Gl X x) (g : ∃ a, X.mg x = some (.ref a) ∧ ∀ q ∈ ps, KFn X.K X.w X.mg a q.1 q.2) (hd : (x == ("__debug__" : Str)) = false := by decide) : PE X (.Name x pos) (tGD X.K X.w X.mg ps) := by
  obtain ⟨a, g, h⟩ := g
  refine ⟨fun pins s σ H Q I q => ld_glob I hg g ⟨.ref a, H, I, rfl, q a h⟩ hd⟩
theorem sx_GD {w : World} {mg : Str → Option Value} {ps : List (Str × Str)} (q : ∀ a, (∀ q ∈ ps, KFn K w mg a q.1 q.2) → Q (.ref a) H) : tGD K w mg ps σ H Q := q
theorem sx_ixKD {w : World} {a : Addr} {z : Str} {v : V} (h : KDct K w a z v) (q : Q v H) : rIxD K w (.ref a) (.str z) H Q := ⟨a, z, v, rfl, rfl, h, q⟩
/-! ### a call of a local that holds a def -/
def tCallV (P : Program) (w : World) (K : PySem.W.Frag) (mg : Str → Option Value) (base : Heap) (k i : Nat) (t : TA) : TE := fun σ H Q => ∃ f sp, σ[i]? = some (some (.ref f)) ∧ Held P w K mg base k f sp ∧ t σ H fun vs H1 => sp vs H1 Q (fun _ _ _ => False)
theorem pe_callV {X : Cx} {k i j : Nat} {x : Str} {p pos : Pos} {e : Expr} {es : List Expr} (hr : Room j X.A) (hk : k ≤ j) (hN : X.N[i]? = some x) (hv : Vis X.env.scope x) (ha : PA X (e :: es) t)
    (hdb : (x == ("__debug__" : Str)) = false := by decide) (hcd : (x == ("__classdict__" : Str)) = false := by decide)
    (he : starEach (e :: es) X.env = (false, eval e X.env) :: starEach es X.env := by rfl) (hpl : (backTo pos (starEach es X.env)).any (·.1) = false := by rfl) : PE X (.Call (.Name x p) (e :: es) [] pos) (tCallV X.prog X.w X.K X.mg X.base k i t) := by
  refine ⟨fun pins s σ H Q I h => ?_⟩
  obtain ⟨f, sp, hs, ⟨fd, ps, F, hk2, hb⟩, ht⟩ := h
  refine (pe_callL (i := i) (f := f) (sp := sp) (dvs := []) (E := fun _ _ _ => False) F (hr.mono hk) hN hv hk2 hb .nil (fun _ _ _ _ _ _ _ z => z.elim) ha hdb hcd he hpl).run pins s σ H Q I ⟨hs, ?_⟩
  have e0 : (fun (vs : List V) (H1 : Hp) => sp (vs ++ []) H1 Q (fun _ _ _ => False)) = fun vs H1 => sp vs H1 Q (fun _ _ _ => False) := by
    funext vs H1
    rw [List.append_nil]
  show t σ H (fun vs H1 => sp (vs ++ []) H1 Q (fun _ _ _ => False))
  rw [e0]
  exact ht
theorem sx_callV {P : Program} {w : World} {mg : Str → Option Value} {base : Heap} {k i : Nat} {f : Addr} {sp : Sp} (hs : σ[i]? = some (some (.ref f))) (h : Held P w K mg base k f sp) (q : t σ H fun vs H1 => sp vs H1 Q (fun _ _ _ => False)) : tCallV P w K mg base k i t σ H Q := ⟨f, sp, hs, h, q⟩
theorem Has.held {P : Program} {w : World} {mg : Str → Option Value} {base : Heap} {x : Str} {st : Stmt} {k : Nat} {ps : List Str} {sp : Sp} {f : Addr} (h : Has P w K mg base x st k ps sp) (hf : mg x = some (.ref f)) : Held P w K mg base k f sp := by
  obtain ⟨f', fd, F, m, n, b⟩ := h
  rw [hf] at m
  have e : f = f' := by injection m with m; injection m
  subst e
  exact ⟨fd, ps, F, n.kp, b⟩
end
/-! ### calls by keywords alone -/
def gsw {α : Type} : List α → List α → List α
  | [], [a, b] => [b, a]
  | _, _ => []
theorem kb_swap {K : PySem.W.Frag} {x p1 p2 : Str} {st : Stmt} (hb : ∀ (kV doc pm : Value) (an : Option Addr) (cdv ct a b : Value), bindArgs (PySem.W.fnOf x x (defArgs st) (defBody st) (defScope st) .none kV doc pm an cdv ct) ⟨[], [(p2, a), (p1, b)]⟩ = pure [(p1, b), (p2, a)]) :
    ∀ f fd, Fun K x x st f fd → KBinds K fd [p1, p2] [p2, p1] gsw gsw := fun f fd F => by
  obtain ⟨oc, od, kV, doc, pm, an, cdv, ct, osl, rfl, lk, hcd⟩ := F.ex
  refine ⟨fun s us ws _ hl => ?_, fun {vs us zs ws} r rz => ?_⟩
  · match us, ws, hl with
    | [], [a, b], hl => exact .of_eq (hb kV doc pm an cdv ct a b)
  · cases r with
    | cons _ _ => exact .nil
    | nil =>
      cases rz with
      | nil => exact .nil
      | cons h t =>
        cases t with
        | nil => exact .nil
        | cons h2 t2 =>
          cases t2 with
          | nil => exact .cons h2 (.cons h .nil)
          | cons h3 t3 => exact .nil
section
variable {X : Cx} {x : Str} {st : Stmt} {k j : Nat} {ps ks : List Str} {sp : Sp} {p pos : Pos} {kws : List Keyword} {tk : TA} {g : List Value → List Value → List Value} {gV : List V → List V → List V}
theorem pe_callK0H (F : Has X.prog X.w X.K X.mg X.base x st k ps sp) (kb : ∀ f fd, Fun X.K x x st f fd → KBinds X.K fd ps ks g gV) (hr : Room j X.A) (hg : Gl X x) (hkw : PK X kws tk) (hk : k ≤ j := by decide)
    (hall : (backToKw pos (keywordEach kws X.env)).all (·.1.isSome) = true := by rfl) (hks : (backToKw pos (keywordEach kws X.env)).filterMap (·.1) = ks := by rfl) (hdb : (x == ("__debug__" : Str)) = false := by decide)
    (hpl : ((backTo pos (starEach [] X.env)).any (·.1) || (backToKw pos (keywordEach kws X.env)).any (·.1.isNone)) = false := by rfl) :
    PE X (.Call (.Name x p) [] kws pos) (tCallK sp gV E0 tNil tk) := by
  obtain ⟨f, fd, F, m, fn, b⟩ := F
  refine ⟨fun pins s σ H Q I h => ?_⟩
  refine wpAny_Call_Name_kw (ld_glob I hg m ?_ hdb)
  refine PySem.W.callWith_KW0 (h₀ := X.base) I.ok.mod.kin fn.kp hall ?_ hpl
  have h : tk σ H fun zs H2 => sp (gV [] zs) H2 Q E0 := h
  refine thn (hkw.run pos pins s σ H _ I h) fun ws s2 ⟨zs, H2, I2, rz, q2⟩ => ⟨I2.kIn, ?_⟩
  rw [hks]
  exact run_fnk F (hr.mono hk) (kb f fd fn) pass0 I2 .nil rz q2
theorem sx_callK {σ : L2.St} {H : Hp} {Q : VK} {E : XK} (q : tk σ H fun zs H2 => sp (gV [] zs) H2 Q E) : tCallK sp gV E tNil tk σ H Q := q
end
/-! ### l.extend(a tuple whose object is known) -/
def rExtendT : V → List V → Hp → VK → Prop := fun x vs H Q => ∃ l b xs zs o, x = .ref l ∧ vs = [.ref b] ∧ H l = some (.lst xs) ∧ H b = some (.frz o (.tup zs)) ∧ TupO o ∧ xs.length + zs.length ≤ sizeLine ∧ Q .non (upd H l (.lst (xs ++ zs)))
theorem mt_extendT {X : Cx} : MtM X "list.extend" rExtendT := by
  intro pins s σ H x vs v us Q I rx rv h
  obtain ⟨l, b, xs, zs, o, ex, ev, hH, hB, to, hz, q⟩ := h
  subst ex ev
  cases rx
  obtain ⟨u, eu, ru⟩ := rv.one
  subst eu
  cases ru
  obtain ⟨z, its, n, r, hl, g1⟩ := I.lstM hH
  obtain ⟨ho, hz2, its2, r2, o2, ho2, hc2, n2, hd2⟩ := (show ObjOk X.prog X.w H s.heap b (.frz o (.tup zs)) from I.hok b _ hB)
  rw [ho] at ho2
  cases ho2
  have hl2 := r2.length
  have g2 : s.heap.get? b = some { cls := .type "tuple", dict := none, data := .seq its2.toArray n2, slots := #[] } := by
    rw [ho]
    obtain ⟨cls, dd, data, sl⟩ := o
    obtain ⟨t1, t2, t3⟩ := to
    simp only at t1 t2 t3 hd2
    subst t1 t2 t3 hd2
    rfl
  have fits : its.toArray.size + its2.toArray.size ≤ sizeLine := by
    rw [List.size_toArray, List.size_toArray]
    omega
  have door : ¬ (!its.toArray.isEmpty && Builtin.List.listTooLong (its.toArray.size + its2.toArray.size)) = true := by
    rw [notLongL fits, Bool.and_false]
    exact Bool.false_ne_true
  refine call_meets PySem.F.slot_list_extend ⟨_, g1, rfl⟩ PySem.F.entry_list_extend (PySem.F.args_list_extend_2 _ _) (AutoSeq1.list_extend_list_tuple_0 l its.toArray n b its2.toArray n2 door (by rw [List.size_toArray]; omega) (by omega)) ⟨g1, g2, ?_⟩
  exact ⟨.non, _, I.lset (its' := its ++ its2) hH g1 (by simp) (r.append r2) (by rw [List.length_append]; omega), rfl, q⟩
theorem sx_extendT {B H : Hp} {Q : VK} {l b : Addr} {o : Obj} {xs ys : List V} (m : Mu B H l xs) (e : Ex B H) (hb : B b = some (.frz o (.tup ys))) (to : TupO o) (hz : xs.length + ys.length ≤ 100000) (q : ∀ H', Nx [l] B H B H' → Mu B H' l (xs ++ ys) → Q .non H') : rExtendT (.ref l) [.ref b] H Q :=
  ⟨l, b, xs, ys, o, rfl, rfl, m.h, e _ _ hb, to, sz_of hz, q _ (m.put e) m.set⟩
/-! ### list(a text) -/
theorem vals_of : ∀ {xs : List V} {vs : List Value}, xs.length = vs.length → (∀ (j : Nat) x v, xs[j]? = some x → vs[j]? = some v → RelV x v) → Vals xs vs
  | [], [], _, _ => .nil
  | [], _ :: _, h, _ => by cases h
  | _ :: _, [], h, _ => by cases h
  | x :: xs, v :: vs, h, k => .cons (k 0 x v rfl rfl) (vals_of (by simpa using h) fun j a b h1 h2 => k (j + 1) a b h1 h2)
def sgs (x : Str) : List Str := x.cps.toList.map fun c => ⟨#[c]⟩
def rListS : List V → Hp → VK → Prop := fun xs H Q => ∃ x : Str, xs = [.str x] ∧ x.cps.size ≤ sizeLine ∧ ∀ l, H l = none → Q (.ref l) (upd H l (.lst ((sgs x).map V.str)))
theorem cl_listS {X : Cx} (hc : X.calm = true) : CallR X (.type "list") rListS := by
  intro pins s σ H xs us Q I r h
  obtain ⟨x, ex, hz, q⟩ := h
  subst ex
  obtain ⟨u, eu, rx⟩ := vals1 r
  subst eu
  obtain ⟨t, et⟩ := rx
  subst et
  refine call_list_str (I.ok.hd hc) x t (fun h' tk acc c k hS hacc => ?_) hz
  have hlen : (sgs x).length = x.cps.size := by unfold sgs; rw [List.length_map, Array.length_toList]
  have rel : Vals ((sgs x).map V.str) acc.toList := by
    refine vals_of (by rw [List.length_map, hlen, Array.length_toList, hacc.1]) fun j a b h1 h2 => ?_
    obtain ⟨cc, uu, hcc, eb⟩ := hacc.2 j b (by simpa using h2)
    subst eb
    rw [List.getElem?_map] at h1
    have e1 : (sgs x)[j]? = some ⟨#[cc]⟩ := by simp [sgs, hcc]
    rw [e1] at h1
    cases h1
    exact ⟨_, rfl⟩
  refine ⟨.ref s.heap.objs.size, upd H s.heap.objs.size (.lst ((sgs x).map V.str)), I.laid (t' := tk) k (Nat.le_refl _) (show ObjOk X.prog X.w _ _ _ (.lst ((sgs x).map V.str)) from ⟨by rw [List.length_map, hlen]; exact hz, acc.toList, c, rel, hS⟩), rfl, q _ (I.hok.fresh (Nat.le_refl _))⟩
theorem sx_listS {B H : Hp} {Q : VK} {x : Str} {ss : List Str} (hs : sgs x = ss) (hz : x.cps.size ≤ 100000) (e : Ex B H) (q : ∀ l H', H l = none → Nx [] B H B H' → Mu B H' l (ss.map V.str) → Q (.ref l) H') : rListS [.str x] H Q := by
  subst hs
  exact ⟨x, rfl, sz_of hz, fun l hl => q l _ hl (Nx.own e hl) (Mu.new e hl)⟩
/-! ### range(i, j, -1) -/
section
variable {g : TG} {tt : TT} {te : TE} {tb : TS} {vs : List Nat} {D : Ends} {σ : L2.St} {H : Hp} {Q : VK} {ta : TA}
def rForD (g : TG) (tb : TS) (D : Ends) (σ : L2.St) (us : List V) (H : Hp) : Prop := ∃ (i j c : Int) (n : Nat), us = [.int i, .int j, .int c] ∧ RgC i j c n ∧ ∃ W : Nat → Nat → L2.St → Hp → Prop, (∃ m, W 0 m σ H) ∧ ∀ k m σ H, W k m σ H →
  ((Itc i c n).stop k H ∧ D.nx σ H) ∨ ((Itc i c n).go k H ∧ ∃ N : L2.St → Hp → Prop, (∀ σ' H', N σ' H' → ∃ m', m' < m ∧ W (k + 1) m' σ' H') ∧ ∀ x H', (Itc i c n).yld k H x H' → g x σ H' fun σ2 H2 => tb { D with nx := N, ct := N, bk := D.nx } σ2 H2)
theorem sx_forD (q : ta σ H fun us H1 => rForD g tb D σ us H1) : tFor (iRng3 ta) g tb D σ H := q
theorem sx_forD_by {i j : Int} (hi : -1000000 ≤ i ∧ i ≤ 1000000) (hj : -1000000 ≤ j ∧ j ≤ 1000000) (Pv : Nat → L2.St → Hp → Prop) (h0 : Pv 0 σ H)
    (hs : ∀ (k : Nat) σ H, (k : Int) < i - j → Pv k σ H → g (.int (i - k)) σ H fun σ2 H2 => tb { D with nx := Pv (k + 1), ct := Pv (k + 1), bk := D.nx } σ2 H2) (hd : ∀ σ H, Pv (i - j).toNat σ H → D.nx σ H) : rForD g tb D σ [.int i, .int j, .int (0 - 1)] H := by
  refine ⟨i, j, -1, (i - j).toNat, rfl, RgC.neg (by omega) (by omega) (by omega) (by omega), fun k m σ H => m = (i - j).toNat - k ∧ k ≤ (i - j).toNat ∧ Pv k σ H, ⟨_, rfl, Nat.zero_le _, h0⟩, fun k m σ H ⟨em, hk, p⟩ => ?_⟩
  subst em
  by_cases z : k < (i - j).toNat
  · refine .inr ⟨z, Pv (k + 1), fun σ' H' p' => ⟨_, by omega, rfl, z, p'⟩, fun x H' y => ?_⟩
    obtain ⟨e1, e2⟩ := y
    subst e1 e2
    rw [show i + (k : Int) * -1 = i - k by omega]
    exact hs k σ _ (by omega) p
  · have e : k = (i - j).toNat := by omega
    subst e
    exact .inl ⟨Nat.le_refl _, hd σ H p⟩
def rLcD (g : TG) (tt : TT) (te : TE) (vs : List Nat) (σ : L2.St) (us : List V) (H : Hp) (Q : VK) : Prop := ∃ (i j c : Int) (n : Nat), us = [.int i, .int j, .int c] ∧ RgC i j c n ∧ ∀ L, H L = none → ∃ W : Nat → Nat → Hp → Prop, (∃ m, W 0 m (upd H L (.lst []))) ∧ ∀ k m H, W k m H →
  ((Itc i c n).stop k H ∧ Q (.ref L) H) ∨ ((Itc i c n).go k H ∧ ∃ N : Hp → Prop, (∀ H', N H' → ∃ m', m' < m ∧ W (k + 1) m' H') ∧ ∀ x H', (Itc i c n).yld k H x H' → g x (wipe σ vs) H' fun σ2 H2 => wipe σ2 vs = wipe σ vs ∧ tt σ2 H2 fun b H3 =>
    if b = true then te σ2 H3 fun y H4 => ∃ acc, H4 L = some (.lst acc) ∧ acc.length < sizeLine ∧ N (upd H4 L (.lst (acc ++ [y]))) else N H3)
theorem sx_lcD (q : ta σ H fun us H1 => rLcD g tt te vs σ us H1 Q) : tLc (iRng3 ta) g tt te vs σ H Q := q
theorem sx_lcD_by {i j : Int} (hi : -1000000 ≤ i ∧ i ≤ 1000000) (hj : -1000000 ≤ j ∧ j ≤ 1000000) (Pv : Addr → Nat → Hp → Prop) (h0 : ∀ L, H L = none → Pv L 0 (upd H L (.lst [])))
    (hs : ∀ L (k : Nat) H, (k : Int) < i - j → Pv L k H → g (.int (i - k)) (wipe σ vs) H fun σ2 H2 => wipe σ2 vs = wipe σ vs ∧ tt σ2 H2 fun b H3 =>
      if b = true then te σ2 H3 fun y H4 => ∃ acc, H4 L = some (.lst acc) ∧ acc.length < sizeLine ∧ Pv L (k + 1) (upd H4 L (.lst (acc ++ [y]))) else Pv L (k + 1) H3) (hd : ∀ L H, Pv L (i - j).toNat H → Q (.ref L) H) : rLcD g tt te vs σ [.int i, .int j, .int (0 - 1)] H Q := by
  refine ⟨i, j, -1, (i - j).toNat, rfl, RgC.neg (by omega) (by omega) (by omega) (by omega), fun L hL => ⟨fun k m H => m = (i - j).toNat - k ∧ k ≤ (i - j).toNat ∧ Pv L k H, ⟨_, rfl, Nat.zero_le _, h0 L hL⟩, fun k m H ⟨em, hk, p⟩ => ?_⟩⟩
  subst em
  by_cases z : k < (i - j).toNat
  · refine .inr ⟨z, Pv L (k + 1), fun H' p' => ⟨_, by omega, rfl, z, p'⟩, fun x H' y => ?_⟩
    obtain ⟨e1, e2⟩ := y
    subst e1 e2
    rw [show i + (k : Int) * -1 = i - k by omega]
    exact hs L k _ (by omega) p
  · have e : k = (i - j).toNat := by omega
    subst e
    exact .inl ⟨Nat.le_refl _, hd L H p⟩
end
/-! ### t + u of any tuples; t[:n], t[n:] -/
def rCatE (K : PySem.W.Frag) : R2 := fun x y H Q => ∃ a b xs ys, x = .ref a ∧ y = .ref b ∧ SqT K H a xs ∧ SqT K H b ys ∧ xs.length + ys.length ≤ sizeLine ∧
  (xs = [] → Q (.ref b) H) ∧ (xs ≠ [] → ys = [] → Q (.ref a) H) ∧ (xs ≠ [] → ys ≠ [] → ∀ p, H p = none → Q (.ref p) (upd H p (.tup (xs ++ ys))))
theorem op_catE {X : Cx} : OpR X (binaryOp .Add) (rCatE X.K) := by
  intro pins s σ H x y v u Q I rx ry h
  obtain ⟨a, b, xs, ys, ex, ey, ha, hb, hz, q0, q1, q2⟩ := h
  by_cases hx : xs = []
  · subst ex ey
    cases rx
    cases ry
    obtain ⟨its, r1, p1, _⟩ := I.tuple ha
    obtain ⟨its2, r2, p2, _⟩ := I.tuple hb
    have hv : its = [] := r1.nil_iff.mpr hx
    obtain ⟨o1, g1, c1, n1, d1⟩ := p1
    obtain ⟨o2, g2, c2, n2, d2⟩ := p2
    obtain ⟨cls, dd, data, sl⟩ := o1
    obtain ⟨cls2, dd2, data2, sl2⟩ := o2
    simp only at c1 d1 c2 d2
    subst c1 d1 c2 d2
    have hm := _root_.PyProof.Rows.tuple_addW0 a b its.toArray its2.toArray n1 n2 dd dd2 sl sl2 (by rw [hv]; rfl)
    exact concat_meets ⟨_, g1, rfl⟩ ⟨_, g2, rfl⟩ noFill_tuple_add seq_tuple_add PySem.F.slot_tuple_add PySem.F.entry_tuple_add (PySem.F.args_tuple_add_2 _ _)
      hm ⟨g1, g2, ⟨.ref b, H, I, rfl, q0 hx⟩⟩
  · exact op_catT pins s σ H x y v u Q I rx ry ⟨a, b, xs, ys, ex, ey, ha, hb, hx, hz, fun z => q1 hx z, fun z => q2 hx z⟩
theorem sx_catE {K : PySem.W.Frag} {B H : Hp} {Q : VK} {x y : V} {ds es : List PyData} (e : Ex B H) (h1 : Dp K B x (.tuple ds)) (h2 : Dp K B y (.tuple es)) (hz : ds.length + es.length ≤ 100000)
    (q : ∀ v B' H', Nx [] B H B' H' → Dp K B' v (.tuple (ds ++ es)) → Q v H') : rCatE K x y H Q := by
  obtain ⟨a, xs, rfl, hs, hd⟩ := Dp.tup_v h1
  obtain ⟨b, ys, rfl, hs2, hd2⟩ := Dp.tup_v h2
  have l1 := Dps.len hd
  have l2 := Dps.len hd2
  refine ⟨a, b, xs, ys, rfl, rfl, e.t hs, e.t hs2, sz_of (by rw [l1, l2]; exact hz), fun z => ?_, fun _ z => ?_, fun _ _ p hp => ?_⟩
  · subst z
    have : ds = [] := List.length_eq_zero_iff.mp l1.symm
    subst this
    exact q _ B H (Nx.refl e) h2
  · subst z
    have : es = [] := List.length_eq_zero_iff.mp l2.symm
    subst this
    exact q _ B H (Nx.refl e) (by rw [List.append_nil]; exact h1)
  · exact q _ (upd B p (.tup (xs ++ ys))) _ (Nx.new e hp) (.tup (SqT.of upd_same) (Dps.up (Ex.new (e.free hp)) (Dps.app hd hd2)))
theorem cut_from (xs : List V) (n : Nat) : cutV xs (some (n : Int)) none = xs.drop n := by
  unfold cutV
  rw [show HT.sIx xs.length 0 (some (n : Int)) = min n xs.length from HT.sIx_nat xs.length 0 n, HT.sIx_none]
  by_cases h : n ≤ xs.length
  · rw [Nat.min_eq_left h, List.take_of_length_le (by rw [List.length_drop]; exact Nat.le_refl _)]
  · rw [Nat.min_eq_right (by omega), List.drop_of_length_le (Nat.le_refl _), List.drop_of_length_le (by omega)]
    exact List.take_nil
theorem sx_slTo {K : PySem.W.Frag} {B H : Hp} {Q : VK} {x : V} {ds : List PyData} {n : Nat} (h : Dp K B x (.tuple ds)) (e : Ex B H) (hn : n < ds.length) (q : ∀ p B' H', H p = none → Nx [] B H B' H' → Dp K B' (.ref p) (.tuple (ds.take n)) → Q (.ref p) H') : rSlT K x none (some (n : Int)) H Q := by
  obtain ⟨a, xs, rfl, hs, hd⟩ := Dp.tup_v h
  have hl := Dps.len hd
  refine ⟨a, xs, rfl, e.t hs, fun z => ?_, fun p hp => ?_⟩
  · have := z.2
    rw [show HT.sIx xs.length xs.length (some (n : Int)) = min n xs.length from HT.sIx_nat xs.length xs.length n, hl] at this
    omega
  · rw [cut_to]
    exact q p (upd B p (.tup (xs.take n))) _ hp (Nx.new e hp) (.tup (SqT.of upd_same) (Dps.up (Ex.new (e.free hp)) (Dps.take n hd)))
theorem sx_slFrom {K : PySem.W.Frag} {B H : Hp} {Q : VK} {x : V} {ds : List PyData} {n : Nat} (h : Dp K B x (.tuple ds)) (e : Ex B H) (hn : 0 < n) (h0 : 0 < ds.length) (q : ∀ p B' H', H p = none → Nx [] B H B' H' → Dp K B' (.ref p) (.tuple (ds.drop n)) → Q (.ref p) H') : rSlT K x (some (n : Int)) none H Q := by
  obtain ⟨a, xs, rfl, hs, hd⟩ := Dp.tup_v h
  have hl := Dps.len hd
  refine ⟨a, xs, rfl, e.t hs, fun z => ?_, fun p hp => ?_⟩
  · have := z.1
    rw [show HT.sIx xs.length 0 (some (n : Int)) = min n xs.length from HT.sIx_nat xs.length 0 n, hl] at this
    omega
  · rw [cut_from]
    exact q p (upd B p (.tup (xs.drop n))) _ hp (Nx.new e hp) (.tup (SqT.of upd_same) (Dps.up (Ex.new (e.free hp)) (Dps.drop n hd)))
theorem k_catE {X : Cx} {K : PySem.W.Frag} (h : X.K = K) : OpR X (binaryOp .Add) (rCatE K) := h ▸ op_catE
end G

/-! GX: errors of classes over Exception by one class between, with an __init__ that keeps one or two things; defs that raise; a try whose first clause takes. -/
namespace GX
open PySem PySem.W PySem.Calls PyProof.Rows PySem.HandSPX
/-! ### the chain of such a class -/
abbrev eTail : List Value := [.type "Exception", .type "BaseException", .type "object"]
abbrev chain (b : Addr) : List Value := .ref b :: eTail
open Builtin Builtin.ObjectAttr in
theorem chain_pass (self : Value) (C b : Addr) : refuseLoop self "__setattr__" (.ref C :: chain b) = pure () := by
  rw [refuseLoop_ref, refuseLoop_ref]
  exact F.store_Exception.passes self
theorem chain_has (b : Addr) (X : String) : (chain b).contains (.type X) = eTail.contains (.type X) := by
  rw [List.contains_cons]
  rfl
theorem chain_obj (C b : Addr) : (Value.ref C :: chain b).contains (.type "object") = true := by
  rw [List.contains_cons, chain_has]
  rfl
section
open Builtin Builtin.ObjectAttr
variable {prog : Program} {w : World} {A : Around} {R : Result → Shared → Prop} {hp : Heap} {g : Array GenState} {d : Drawn} {t : Nat} {os : OsState}
/-- the first thing kept -/
theorem keep_first {K : W.Frag} {name : Str} {tk : Tok} {v : Value} {x C b : Addr} {fv : Array Value} {cd : ClassData} (X : K.In hp) (hx : hp.get? x = some { cls := .ref C, data := .fields fv }) (hcd : W.clsIn K C = some cd) (hm : cd.mro = .ref C :: chain b)
    (hh : cd.hasDict = true) (ha : W.findIn K (.ref C) name = some none) (hq : ∀ h' tk' dx, (∀ b o, b ≠ x → hp.get? b = some o → h'.get? b = some o) → hp.objs.size ≤ dx → dx ≠ x → h'.get? x = some { cls := .ref C, dict := some dx, data := .fields fv } → h'.Ns1 dx (fun y => if y = name then some v else none) → R (.ok (.ret .none)) ⟨h', g, d, tk', os⟩) :
    codeAny (model prog w) A (.call (.builtin "object.__setattr__") ⟨[.ref x, .str name tk, v], []⟩) R ⟨hp, g, d, t, os⟩ := by
  have hn0 : cd.mro.isEmpty = false := by rw [hm]; rfl
  have ho0 : cd.mro.contains (.type "object") = true := by rw [hm]; exact chain_obj C b
  have hsz : x ≠ hp.objs.size := Nat.ne_of_lt (Heap.lt_size hx)
  have I : W.InstAt hp x { cls := .ref C, data := .fields fv } C none := ⟨hx, rfl, rfl, trivial⟩
  have S := F.store_object
  have isO : W.Looks (model prog w) hp (isInstance (.ref x) (.type "object")) true := I.type.andThen (W.looks_mroIn X (by unfold W.mroIn; rw [hcd, Option.bind_some, if_neg (by rw [hn0]; decide), ho0]))
  refine codeAny_call_builtin S.slot.plain S.entry (@W.check_slot (model prog w) _ _ ⟨hp, g, d, t, os⟩ "object.__setattr__" "object" "__setattr__" (.ref x) [.str name tk, v] [] _ S.kind S.split isO (S.args (.ref x) (.str name tk) v) ?_)
  have m1 : W.Looks (model prog w) hp (mroOf (.ref C)) cd.mro := (W.looks_clsIn X hcd).andThen .now
  have m2 : W.Looks (model prog w) hp (storeTaker? none) none := .now
  have m3 : W.Looks (model prog w) hp (classData C) cd := W.looks_clsIn X hcd
  rw [W.osa_eq, refuse_eq]
  refine wpAny_bind (wpAny_bind (I.type.at (wpAny_bind (m1.at ?_))))
  rw [hm, chain_pass]
  refine wpAny_pure (wpAny_bind (I.type.at (wpAny_bind ((W.looks_findIn X ha).at (wpAny_bind (m2.at ?_))))))
  show wpAny _ _ (storeInOwnDict (.ref x) (.ref C) (.str name tk) name v false) _ _ _
  obtain ⟨nm, bs, mro, ns, qn, hd, sn, sb, ab, col, del⟩ := cd
  dsimp only at hh
  subst hh
  unfold storeInOwnDict ownDictForStores
  repeat (first | with_reducible refine store_in_new ?_ ?_ | with_reducible refine wpAny_loadPart_at hx ?_ | with_reducible refine m3.at ?_ | wp_step)
  · exact ⟨_, #[], _, (Heap.get?_update_ne _ _ _ _ hsz.symm).trans (Heap.get?_push_at rfl rfl), rfl, fun e he => absurd he (by simp), fun _ => rfl⟩
  · intro h' tk' hn' hs
    have hx1 : (hp.push { cls := .type "dict", data := .dict #[] }).get? x = some { cls := .ref C, data := .fields fv } := Heap.get?_push_of_some _ hx
    refine hq h' tk' hp.objs.size (fun b o hb ho => ?_) (Nat.le_refl _) hsz.symm ((hs.2 x hsz).trans (Heap.get?_update_self _ hx1 rfl)) hn'
    exact (hs.2 b (Nat.ne_of_lt (Heap.lt_size ho))).trans ((Heap.get?_update_ne _ _ _ _ hb).trans (Heap.get?_push_of_some _ ho))
/-- one more -/
theorem keep_next {K : W.Frag} {name : Str} {tk : Tok} {v : Value} {x C b dx : Addr} {fv : Array Value} {cd : ClassData} {m0 : Str → Option Value} {nl : List Str} (X : K.In hp) (hx : hp.get? x = some { cls := .ref C, dict := some dx, data := .fields fv }) (hns : hp.Ns1 dx m0)
    (hw : Within m0 nl) (hz : nl.length ≤ 1000) (hcd : W.clsIn K C = some cd) (hm : cd.mro = .ref C :: chain b) (hh : cd.hasDict = true) (ha : W.findIn K (.ref C) name = some none)
    (hq : ∀ h' tk', (∀ b o, b ≠ dx → hp.get? b = some o → h'.get? b = some o) → h'.Ns1 dx (fun y => if y = name then some v else m0 y) → R (.ok (.ret .none)) ⟨h', g, d, tk', os⟩) :
    codeAny (model prog w) A (.call (.builtin "object.__setattr__") ⟨[.ref x, .str name tk, v], []⟩) R ⟨hp, g, d, t, os⟩ := by
  obtain ⟨oD, _, _, hoD, _, _⟩ := hns.count hw
  have hn0 : cd.mro.isEmpty = false := by rw [hm]; rfl
  have ho0 : cd.mro.contains (.type "object") = true := by rw [hm]; exact chain_obj C b
  have I : W.InstAt hp x { cls := .ref C, dict := some dx, data := .fields fv } C (some oD) := ⟨hx, rfl, rfl, hoD⟩
  have S := F.store_object
  have isO : W.Looks (model prog w) hp (isInstance (.ref x) (.type "object")) true := I.type.andThen (W.looks_mroIn X (by unfold W.mroIn; rw [hcd, Option.bind_some, if_neg (by rw [hn0]; decide), ho0]))
  refine codeAny_call_builtin S.slot.plain S.entry (@W.check_slot (model prog w) _ _ ⟨hp, g, d, t, os⟩ "object.__setattr__" "object" "__setattr__" (.ref x) [.str name tk, v] [] _ S.kind S.split isO (S.args (.ref x) (.str name tk) v) ?_)
  have m1 : W.Looks (model prog w) hp (mroOf (.ref C)) cd.mro := (W.looks_clsIn X hcd).andThen .now
  have m2 : W.Looks (model prog w) hp (storeTaker? none) none := .now
  have m3 : W.Looks (model prog w) hp (classData C) cd := W.looks_clsIn X hcd
  rw [W.osa_eq, refuse_eq]
  refine wpAny_bind (wpAny_bind (I.type.at (wpAny_bind (m1.at ?_))))
  rw [hm, chain_pass]
  refine wpAny_pure (wpAny_bind (I.type.at (wpAny_bind ((W.looks_findIn X ha).at (wpAny_bind (m2.at ?_))))))
  show wpAny _ _ (storeInOwnDict (.ref x) (.ref C) (.str name tk) name v false) _ _ _
  obtain ⟨nm, bs, mro, ns, qn, hd, sn, sb, ab, col, del⟩ := cd
  dsimp only at hh
  subst hh
  unfold storeInOwnDict ownDictForStores
  repeat (first | with_reducible refine PySem.OEX.store_in_old hns hw hz ?_ | with_reducible refine wpAny_loadPart_at hx ?_ | with_reducible refine m3.at ?_ | wp_step)
  intro h' tk' hn' hs
  exact hq h' tk' (fun b o hb ho => (hs.2 b hb).trans ho) hn'
end
/-! ### the text of __init__, of one thing or two -/
def nArg (x : Str) (p : Pos) : Arg := { arg := x, annotation := none, pos := p }
def nA (as : List Arg) : Arguments := { posonlyargs := [], args := as, vararg := none, kwonlyargs := [], kw_defaults := [], kwarg := none, defaults := [] }
def nSet (x : Str) (q1 q2 q3 q4 : Pos) : Stmt := .Assign [.Attribute (.Name "self" q1) x q2] (.Name x q3) q4
def nS (xs : List Str) : Scope := { kind := .function, names := (PySem.Str.ofString "self", .local) :: xs.map (fun x => (x, .local)), isGenerator := false, isCoroutine := false, more := [] }
/-- what the written part says of such a class at C, named x, of its __init__ at fI -/
structure ErrC (K : Frag) (mg : Str → Option Value) (x : Str) (xs : List Str) (C fI : Addr) : Prop where
  gC : mg x = some (.ref C)
  cls : ∃ nm q N bs b sn sub ab col dd k0 k1 k2 k3 k5, K.lookup C = some (excClassObj nm q C N bs (chain b) true sn sub ab col dd k0 k1 k2 k3 k5 "Exception.__new__")
  sa : findIn K (.ref C) "__setattr__" = some (some (.builtin "object.__setattr__"))
  ga : findIn K (.ref C) "__getattribute__" = some (some (.builtin "BaseException.__getattribute__"))
  gg : findIn K (.ref C) "__getattr__" = some none
  noN : ∀ y ∈ xs, findIn K (.ref C) y = some none
  iC : findIn K (.ref C) "__init__" = some (some (.ref fI))
  tC : typeIn K (.ref fI) = some (.type "function")
  kC : keepIn K (.ref C) = true
  exC : subIn K (.ref C) (.type "BaseException") = some true
  tyC : typeIn K (.ref C) = some (.type "type")
  hdC : hasDictIn K C = true
  te : exmOne K (.ref C) (.ref C) = some true
theorem ErrC.xf {K : Frag} {mg : Str → Option Value} {x : Str} {xs : List Str} {C fI : Addr} (T : ErrC K mg x xs C fI) : L2.XfC K C := ⟨T.ga, T.gg, T.exC, T.hdC⟩
theorem one_size (v : Value) : [v].length ≤ sizeLine := by
  rw [sizeLine_eq]
  exact (by decide : 1 ≤ 16777216)
/-- what __init__ leaves of a new error at x -/
structure Made (h h' : Heap) (x C dx t1 : Addr) (m : Str → Option Value) : Prop where
  keep : ∀ b o, b ≠ x → h.get? b = some o → h'.get? b = some o
  obj : h'.get? x = some { cls := .ref C, dict := some dx, data := .fields #[.ref t1, .none, .none, .none, .bool false, .none] }
  dbig : h.objs.size ≤ dx
  dne : dx ≠ x
  ns : h'.Ns1 dx m
structure Got (h h' : Heap) (e C d : Addr) (m : Str → Option Value) : Prop where
  keep : ∀ b o, h.get? b = some o → h'.get? b = some o
  new : h.objs.size ≤ e
  obj : ∃ oe vs, h'.get? e = some oe ∧ oe.cls = .ref C ∧ oe.dict = some d ∧ oe.data = .fields vs ∧ vs[1]? = some .none
  dbig : h.objs.size ≤ d
  dne : d ≠ e
  ns : h'.Ns1 d m
theorem ld_own {M : Model} {s : Shared} {name : Str} {scope : Scope} {L a : Addr} {cd : Value} {m : Str → Option Value} {x : Str} {pos : Pos} {v : Value} {Q : Value → Shared → Prop} {A : Around} {E : Value → Shared → Prop} (hn : s.heap.Ns L m)
    (hv : m x = some v) (h : Q v s) (hk : scope.kind = .function := by rfl) (hl : (envOfC name scope L a cd).kindOf x = some .local := by rfl) (hd : (x == ("__debug__" : Str)) = false := by decide) : wpAny M A (eval (.Name x pos) (envOfC name scope L a cd)) Q E s := wpAny_Name (wpAny_loadName_local hk hl hn hv h) hd
section
variable {K : Frag} {mg : Str → Option Value} {C fI : Addr} {x : Str} {xs : List Str}
theorem ErrC.cd (T : ErrC K mg x xs C fI) : ∃ cd b, clsIn K C = some cd ∧ cd.mro = .ref C :: chain b ∧ cd.hasDict = true := by
  obtain ⟨nm, q, N, bs, b, sn, sub, ab, col, dd, k0, k1, k2, k3, k5, hC⟩ := T.cls
  exact ⟨{ name := nm, bases := bs, mro := .ref C :: chain b, ns := N, qualname := q, hasDict := true, slotNames := sn, subclasses := sub, abstract := ab, collection := col, hasDel := false }, b, by unfold clsIn; rw [hC] <;> rfl, rfl, rfl⟩
end
/-- .. of one thing, at -/
structure Err1 (K : Frag) (mg : Str → Option Value) (x : Str) (C fI : Addr) : Prop extends ErrC K mg x ["at"] C fI where
  fn : ∃ (qn : Str) (oc : Value) (od : Option Addr) (doc pm : Value) (an : Option Addr) (cdv ct : Value) (osl : Array (Option Value)) (p1 p2 q1 q2 q3 q4 : Pos),
    K.lookup fI = some ⟨oc, od, .func (fnOf "__init__" qn (nA [nArg "self" p1, nArg "at" p2]) [nSet "at" q1 q2 q3 q4] (nS ["at"]) .none .none doc pm an cdv ct), osl⟩ ∧ codeIn K cdv qn = true
section
variable {prog : Program} {w : World} {A : Around} {R : Result → Shared → Prop} {s : Shared} {K : Frag} {mg : Str → Option Value} {C fI : Addr} {x : Str}
theorem init1 (T : Err1 K mg x C fI) {y t0 : Addr} {v : Value} (X : K.In s.heap) (hlim : s.heap.NoLimit) (hy : s.heap.get? y = some (excO C t0)) (hroom : A.depth < recursionLimit)
    (hq : ∀ h' tk dx, Made s.heap h' y C dx t0 (fun z => if z = "at" then some v else none) → R (.ok (.ret .none)) { s with heap := h', toks := tk }) : codeAny (model prog w) A (.call (.ref fI) ⟨[.ref y, v], []⟩) R s := by
  obtain ⟨qn, oc, od, doc, pm, an, cdv, ct, osl, p1, p2, q1, q2, q3, q4, ho, hcd⟩ := T.fn
  obtain ⟨cd, b, hcl, hm, hh⟩ := T.cd
  refine Att.call_fn (binds := [("self", .ref y), ("at", v)]) X hlim ho hcd hroom (BindsTo.of_eq (by first | rfl | with_unfolding_all rfl)) (by first | rfl | decide | with_unfolding_all rfl) (fun s1 IC => ?_) rfl rfl rfl
  obtain ⟨h1, tk1, rfl⟩ := IC.toInCall.same
  have k := IC.toInCall.keep
  have hn := IC.toInCall.ns
  have ny : s.heap.objs.size ≠ y := Nat.ne_of_gt (Heap.lt_size hy)
  have X1 : K.In h1 := X.keeps k
  have hy1 := k _ _ hy
  refine wpAny_execs_cons (plainObj_wpAny_Assign_Attribute ?_)
  refine ld_own (v := v) hn (by first | rfl | with_unfolding_all rfl | kernel_rfl) (ld_own (v := .ref y) hn (by first | rfl | with_unfolding_all rfl | kernel_rfl) ?_)
  refine set_plain X1 (ox := excO C t0) (od := none) ⟨hy1, rfl, rfl, trivial⟩ T.sa ?_
  refine keep_first X1 hy1 hcl hm hh (T.noN _ (by simp)) (fun h3 tk3 dx k3 dn dne hx3 hn3 => ?_)
  have z : s.heap.objs.size < h1.objs.size := hn.lt
  exact wpAny_execs_nil (hq h3 tk3 dx ⟨fun b o hb e => k3 b o hb (k b o e), hx3, Nat.le_of_lt (Nat.lt_of_lt_of_le z dn), dne, hn3⟩)
theorem made1 (T : Err1 K mg x C fI) {v : Value} (X : K.In s.heap) (hlim : s.heap.NoLimit) (hroom : A.depth + 1 < recursionLimit)
    (hq : ∀ h' tk e d, Got s.heap h' e C d (fun z => if z = "at" then some v else none) → R (.ok (.ret (.ref e))) { s with heap := h', toks := tk }) : codeAny (model prog w) A (.call (.ref C) ⟨[v], []⟩) R s := by
  obtain ⟨nm, q, N, bs, b, sn, sub, ab, col, dd, k0, k1, k2, k3, k5, hC⟩ := T.cls
  obtain ⟨hp, g, dr, tk, os⟩ := s
  have k : ∀ b o, hp.get? b = some o → ((hp.push (kdv_tup [v])).push (excO C hp.objs.size)).get? b = some o := fun b o e => Heap.get?_push_of_some _ (Heap.get?_push_of_some _ e)
  have hget : ((hp.push (kdv_tup [v])).push (excO C hp.objs.size)).get? (hp.objs.size + 1) = some (excO C hp.objs.size) := by heap_get
  refine call_own F.excBase_Exception (fun X => chain_has b X) (X _ _ hC) (looks_findIn X T.iC) (fun self => bind_fn X self T.tC) (one_size v) ?_
  refine init1 (s := ⟨(hp.push (kdv_tup [v])).push (excO C hp.objs.size), g, dr, tk, os⟩) T (X.keeps k) (hlim.keeps k) hget ?_ fun h' tk' dx ⟨k', hx, dn, dne, hns⟩ => ?_
  · exact hroom
  · have old : ∀ b o, hp.get? b = some o → h'.get? b = some o := fun b o e => k' b o (Nat.ne_of_lt (Nat.lt_succ_of_lt (Heap.lt_size e))) (k b o e)
    have z : hp.objs.size + 1 + 1 ≤ dx := by
      first
        | (simpa only [Heap.size_push] using dn)
        | exact dn
        | (have q := dn; rw [Heap.size_push, Heap.size_push] at q; exact q)
    exact ⟨rfl, hq h' tk' (hp.objs.size + 1) dx ⟨old, Nat.le_succ _, ⟨_, _, hx, rfl, rfl, rfl, rfl⟩, Nat.le_trans (Nat.le_trans (Nat.le_succ _) (Nat.le_succ _)) z, dne, hns⟩⟩
end
end GX
namespace G
open PySem PySem.Spec PyProof.Rows L2
theorem relO_one {v : V} {v' : Value} {g : Str} (r : RelV v v') (f : Str) : RelO (List.lookup f [(g, v)]) (if f = g then some v' else none) := by
  by_cases hw : f = g
  · subst hw
    rw [if_pos rfl]
    have q : List.lookup f [(f, v)] = some v := by simp [List.lookup]
    rw [q]
    exact r
  · rw [if_neg hw]
    have q2 : List.lookup f [(g, v)] = none := by
      have : (f == g) = false := by simpa using hw
      simp [List.lookup, this]
    rw [q2]
    trivial
section
variable {X : Cx} {C fI : Addr}
/-- E(e) -/
def tMk1 (C : Addr) (ta : TA) : L2.St → Hp → XK → Prop := fun σ H Q => ta σ H fun vs H1 => ∃ v, vs = [v] ∧ ∀ d, H1 d = none → Q (.ref C) (some d) (upd H1 d (.xd [(("at" : Str), v)]))
theorem pmk1 {x : Str} {a : Expr} {ta : TA} {p pos : Pos} {k : Nat} (T : GX.Err1 X.K X.mg x C fI) (hr : Room k X.A) (ha : PA X [a] ta) (hg : Gl X x := by rfl) (hdb : (x == ("__debug__" : Str)) = false := by decide)
    (he : starEach (a :: []) X.env = (false, eval a X.env) :: starEach [] X.env := by rfl) (hpl : (backTo pos (starEach [] X.env)).any (·.1) = false := by rfl) :
    PMk X (.Call (.Name x p) [a] [] pos) (tMk1 C ta) := by
  intro pins s σ H Q I h
  refine wpAny_Call_Name_kw (ld_glob I hg T.gC ?_ hdb)
  refine PySem.W.callWith_K (h₀ := X.base) I.ok.mod.kin T.kC (thn (ha.run pos pins s σ H _ I h) fun us s1 hh => ?_) he hpl
  obtain ⟨vs, H1, I1, r1, v, ev, q1⟩ := hh
  subst ev
  refine ⟨I1.kIn, ?_⟩
  cases r1 with
  | cons rv rn =>
    rename_i v' us'
    cases rn
    show wpAny _ _ (call (.ref C) [v']) _ _ _
    have hlim := I1.nolimit
    obtain ⟨hp, g, dr, tk, os⟩ := s1
    refine wpAny_call (GX.made1 T I1.kIn hlim (by have := hr.dp; omega) fun h' tk' e d M => ?_)
    show MkP X pins σ Q (.ref e) ⟨h', g, dr, tk', os⟩
    obtain ⟨oe, fv, hoe, hc, hd, hdat, h1⟩ := M.obj
    have hns := M.ns
    obtain ⟨G', g1, g2⟩ := restrict h' fun b => decide (b ≠ e)
    have gk : ∀ b, b ≠ e → G'.get? b = h'.get? b := fun b hb => g1 b (decide_eq_true hb)
    have ge : G'.get? e = none := g2 e (by simp)
    have old : ∀ b o, hp.get? b = some o → G'.get? b = some o := fun b o q => (gk b (Nat.ne_of_lt (Nat.lt_of_lt_of_le (Heap.lt_size q) M.new))).trans (M.keep b o q)
    have ob : ObjOk X.prog X.w (upd H1 d (.xd [(("at" : Str), v)])) G' d (.xd [(("at" : Str), v)]) := ⟨_, hns.at (fun o q => (gk d M.dne).trans q), fun f => relO_one rv f⟩
    have J : Inv X pins σ (upd H1 d (.xd [(("at" : Str), v)])) ⟨G', g, dr, tk', os⟩ := I1.laid (t' := tk') old M.dbig ob
    refine ⟨e, oe, fv, ⟨G', g, dr, tk', os⟩, _, .ref C, some d, rfl, J, fun b o q => ?_, ge, hoe, ⟨hc, hd⟩, hdat, h1, ?_, rfl, I1.bare, raises_own T.exC T.tyC, q1 d (I1.hok.fresh M.dbig)⟩
    · by_cases hb : b = e
      · have q' : G'.get? b = some o := q
        rw [hb, ge] at q'
        cases q'
      · exact (gk b hb).symm.trans q
    · rw [upd_ne (Ne.symm M.dne)]
      exact I1.hok.fresh M.new
def tRaise1 (C : Addr) (W : WX) (ta : TA) : TS := fun _ σ H => tMk1 C ta σ H fun cls d H' => W cls d σ H'
theorem ps_raise1 {x : Str} {a : Expr} {ta : TA} {W : WX} {p pos pos2 : Pos} {k : Nat} (T : GX.Err1 X.K X.mg x C fI) (hc : X.calm = true) (hr : Room k X.A) (tk : Takes X W) (ha : PA X [a] ta) (hg : Gl X x := by rfl) (hdb : (x == ("__debug__" : Str)) = false := by decide)
    (he : starEach (a :: []) X.env = (false, eval a X.env) :: starEach [] X.env := by rfl) (hpl : (backTo pos (starEach [] X.env)).any (·.1) = false := by rfl) :
    PS X (.Raise (some (.Call (.Name x p) [a] [] pos)) none pos2) (tRaise1 C W ta) := ps_raise hc tk (pmk1 T hr ha hg hdb he hpl)
end
end G
namespace G
open PySem PySem.Spec PyProof.Rows L2
/-! ### a try whose first clause (as n) takes whatever its body lets out -/
def wFst (K : PySem.W.Frag) (c : Value) (i : Nat) (ts : Addr → Value → Option Addr → TS) (D : Ends) : WX := fun cls d σ H =>
  PySem.W.exmOne K cls c = some true ∧ ∀ a, H a = none → ts a cls d { nx := fun σ' H' => D.nx (σ'.set i none) H', rt := D.rt, bk := fun σ' H' => D.bk (σ'.set i none) H', ct := fun σ' H' => D.ct (σ'.set i none) H' } (σ.set i (some (.ref a))) H
section
variable {X : Cx} {x n : Str} {c : Value} {i : Nat} {body suite : List Stmt} {b₀ : Stmt} {np pos pos' : Pos} {hds : List ExceptHandler} {tb : WX → TS} {ts : Addr → Value → Option Addr → TS}
theorem ps_try_first (hs : X.stack = X.env :: X.outer) (hf : X.env.frame = some X.env.locals) (hN : X.N.Nodup) (hi : X.N[i]? = some n) (hln : X.env.kindOf n = some .local) (hc : Names X x c)
    (hb : ∀ (W : WX) (pn : List (Addr × Obj)) (xe : Value → Shared → Prop), Takes (X.tr pn xe) W → PassesOwn (model X.prog X.w) X.A X.env xe → PSs (X.tr pn xe) body (tb W))
    (hsu : ∀ (a : Addr) (oe : Obj) (cls : Value) (d : Option Addr) (pn : List (Addr × Obj)), Zc cls d oe → (∃ vs, oe.data = .fields vs) → PSs (X.suite a ((a, oe) :: pn)) (b₀ :: suite) (ts a cls d)) :
    PS X (.Try body (.ExceptHandler (some (.Name x np)) (some n) (b₀ :: suite) pos' :: hds) [] [] pos) (fun D σ H => tb (wFst X.K c i ts D) D σ H) := by
  refine ⟨fun pins s σ H D I h => ?_⟩
  have ok := I.ok
  have hstk : X.A.frames = some (X.env :: X.outer) := by rw [ok.frames, hs]
  have isl : Loc X.env.scope n := .inl hln
  refine wpAny_Try_except (wpAny_mono ((hb (wFst X.K c i ts D) (X.pn ++ pins) (fun e s₁ => wpAny (model X.prog X.w) X.A (noteFrame e X.env) (fun _ s₂ => wpAny (model X.prog X.w) X.A (setFlight e none) (fun _ s₃ =>
    wpAny (model X.prog X.w) X.A (handleBy e X.env (.ExceptHandler (some (.Name x np)) (some n) (b₀ :: suite) pos' :: hds)) (SP X pins D) X.xe s₃) X.xe s₂) X.xe s₁) (fun u s' xx => ?_) PassesOwn.looking).run [] s σ H D (I.toTry _) h) (fun f s1 hsp => ?_) (fun e s1 he => he))
  · obtain ⟨a, B, sI, pins', σ', H', cls, d, rfl, J', nb, up, sky, na, os, ag, hyes, hgo⟩ := xx
    have J : Inv X pins σ' H' sI := J'.ofTry ok
    have sky2 : Sky B (X.env :: X.outer) a (Zc cls d) X.env.locals s'.heap := by rw [← hs]; exact sky
    show wpAny (model X.prog X.w) X.A (noteFrame (.ref a) X.env) _ _ _
    refine Sky.land Zc.steady hstk hf sky2 fun h3 fl3 up3 => ?_
    have J3 : Inv X pins σ' H' { s' with heap := h3 } := J.landed nb fl3.1 (up.trans up3) os ag
    obtain ⟨oe3, vs3, he3, hz3, hd3⟩ := fl3.there
    have off : a ∉ frs (X.env :: X.outer) := fun hm => by
      obtain ⟨_, o', e', hnf⟩ := fl3.2.2.1.mem hm
      rw [he3] at e'
      cases e'
      exact hnf _ hd3
    have nL : a ≠ X.env.locals := fun z => off (List.mem_filterMap.mpr ⟨X.env, List.mem_cons_self, by rw [hf, z]⟩)
    have nF : a ∉ X.fs := fun hm => by
      obtain ⟨e, he, q⟩ := List.mem_filterMap.mp hm
      exact off (List.mem_filterMap.mpr ⟨e, List.mem_cons_of_mem _ he, q⟩)
    have S3 := J3.suite he3 hd3 na nL nF
    refine wpAny_handleBy_cons (codeAny_handlers_test ?_) (by intro q; cases q)
    have hty : PySem.W.Looks (model X.prog X.w) h3 (typeOf (.ref a)) cls := fun A Q E s k q => wpAny_typeOf_ref (k _ _ he3) (by rw [hz3.1]; exact q)
    have hmt := PySem.W.exm_one (M := model X.prog X.w) (J3.kIn) hty hyes
    have named : ∀ {Q : Value → Shared → Prop} {E : Value → Shared → Prop}, Q c { s' with heap := h3 } → wpAny (model X.prog X.w) (X.A.mark (some (.ref a))) (eval (.Name x np) X.env) Q E { s' with heap := h3 } := fun {Q E} q => by
      obtain ⟨hg, hdbg, hm | ⟨hm, hv, hnn⟩⟩ := hc
      · exact ld_glob (X := X.suite a ((a, oe3) :: (X.pn ++ pins))) S3 hg hm q hdbg
      · exact ld_blt (X := X.suite a ((a, oe3) :: (X.pn ++ pins))) S3 hg hm hv q hnn hdbg
    refine named (hmt.here (codeAny_handlers_suite_as ?_))
    refine HandSPX.lands_againZ fl3 fun h4 fl4 up4 => ?_
    have J4 : Inv X pins σ' H' { s' with heap := h4 } := J.landed nb fl4.1 ((up.trans up3).trans up4) os ag
    obtain ⟨oe4, vs4, he4, hz4, hd4⟩ := fl4.there
    have S4 := J4.suite he4 hd4 na nL nF
    refine store_ok (X := X.suite a ((a, oe4) :: (X.pn ++ pins))) (v := .ref a) S4 hN hi isl rfl (fun s5 S5 => ?_) (.inr hln)
    refine wpAny_mono ((hsu a oe4 cls d (X.pn ++ pins) hz4 ⟨_, hd4⟩).run [] s5 _ H' _ S5 (hgo a na)) (fun f s6 hsp => ?_) (fun _ _ z => False.elim z)
    have back : ∀ {σ6 : L2.St} {H6 : Hp} {Q : Shared → Prop}, Inv (X.suite a ((a, oe4) :: (X.pn ++ pins))) [] σ6 H6 s6 → (∀ s7, Inv X pins (σ6.set i none) H6 s7 → Q s7) →
        wpAny (model X.prog X.w) X.A (do bindName X.env n .none; unbindBehindTheSuite X.env n pos') (fun _ s7 => Q s7) X.xe s6 := fun {σ6 H6 Q} S6 hq => gone_ok (S6.unsuite ok) hN hi hln hq
    cases f with
    | ret u =>
      obtain ⟨v6, σ6, H6, S6, r6, q6⟩ := hsp
      exact back S6 fun s7 J7 => ⟨_, _, _, J7, r6, q6⟩
    | next =>
      obtain ⟨σ6, H6, S6, q6⟩ := hsp
      exact back S6 fun s7 J7 => ⟨_, _, J7, q6⟩
    | brk =>
      obtain ⟨σ6, H6, S6, q6⟩ := hsp
      exact back S6 fun s7 J7 => ⟨_, _, J7, q6⟩
    | cont =>
      obtain ⟨σ6, H6, S6, q6⟩ := hsp
      exact back S6 fun s7 J7 => ⟨_, _, J7, q6⟩
  · cases f with
    | ret u =>
      obtain ⟨v, σ', H', J', r, q⟩ := hsp
      exact ⟨v, σ', H', J'.ofTry ok, r, q⟩
    | next =>
      obtain ⟨σ', H', J', q⟩ := hsp
      exact wpAny_execs_nil ⟨σ', H', J'.ofTry ok, q⟩
    | brk =>
      obtain ⟨σ', H', J', q⟩ := hsp
      exact ⟨σ', H', J'.ofTry ok, q⟩
    | cont =>
      obtain ⟨σ', H', J', q⟩ := hsp
      exact ⟨σ', H', J'.ofTry ok, q⟩
end
/-! ### defs that raise -/
structure HasX (P : Program) (w : World) (K : PySem.W.Frag) (mg : Str → Option Value) (base : Heap) (x : Str) (st : Stmt) (k : Nat) (ps : List Str) (sp : Sp) : Prop where
  ex : ∃ f fd, FnOk P w K mg base (L2.CX P w) k f fd ps sp ∧ mg x = some (.ref f) ∧ Fun K x x st f fd ∧ Binds K fd ps []
section
variable {P : Program} {w : World} {K : PySem.W.Frag} {mg : Str → Option Value} {base : Heap}
theorem has_mkX {x : Str} {st : Stmt} {N ps : List Str} {k : Nat} {sp : Sp} (D : Df K mg x st) (S : FnScope N ps (defScope st))
    (hb : ∀ (kV doc pm : Value) (an : Option Addr) (cdv ct : Value) (us : List Value), us.length = ps.length → bindArgs (PySem.W.fnOf x x (defArgs st) (defBody st) (defScope st) .none kV doc pm an cdv ct) ⟨us, []⟩ = pure (ps.zip us))
    (len : ∀ vs H Q E, sp vs H Q E → vs.length = ps.length)
    (hbody : ∀ (f : Addr) (cdv : Value) (A : Around) (outer : List Env) (s : Shared) (H : Hp) (vs : List V) (Q : VK) (E : XK), Room k (A.deeper (envOfC x (defScope st) s.heap.objs.size f cdv)) → sp vs H Q E →
      ∃ t, PSs (cxOf (L2.CX P w) P w K mg base N x (defScope st) f cdv A outer s H E) (defBody st) t ∧ t { nx := fun _ H' => Q .non H', rt := Q } (start N vs) H) : HasX P w K mg base x st (k + 1) ps sp := by
  obtain ⟨f, fd, F, m⟩ := D
  exact ⟨f, fd, F.okX S len (fun cdv A outer s H vs Q E => hbody f cdv A outer s H vs Q E), m, F, F.binds hb⟩
end
section
variable {X : Cx} {x : Str} {st : Stmt} {k j : Nat} {ps : List Str} {sp : Sp} {p pos : Pos} {e : Expr} {es : List Expr} {t : TA} {W : WX}
/-- a call of one, around which W is wished -/
theorem pe_callX (F : HasX X.prog X.w X.K X.mg X.base x st k ps sp) (hr : Room j X.A) (tk : Takes X W) (hg : Gl X x) (ha : PA X (e :: es) t) (hk : k ≤ j := by decide)
    (hdb : (x == ("__debug__" : Str)) = false := by decide) (he : starEach (e :: es) X.env = (false, eval e X.env) :: starEach es X.env := by rfl) (hpl : (backTo pos (starEach es X.env)).any (·.1) = false := by rfl) :
    PE X (.Call (.Name x p) (e :: es) [] pos) (tCallS sp (WE W) t) := by
  obtain ⟨f, fd, F, m, fn, b⟩ := F
  exact pe_callS F (hr.mono hk) hg m fn.kp b (fun σ => passAt tk σ) ha hdb he hpl
theorem sx_callS {σ : L2.St} {H : Hp} {Q : VK} {E : L2.St → XK} (q : t σ H fun vs H1 => sp vs H1 Q (E σ)) : tCallS sp E t σ H Q := q
end
end G
namespace G
open PySem PySem.Spec PyProof.Rows L2
/-! ### .. by keywords alone -/
section
variable {X : Cx} {x : Str} {st : Stmt} {k j : Nat} {ps ks : List Str} {sp : Sp} {p pos : Pos} {kws : List Keyword} {tk : TA} {g : List Value → List Value → List Value} {gV : List V → List V → List V} {W : WX}
def tCallXK (sp : Sp) (gV : List V → List V → List V) (W : WX) (tk : TA) : TE := fun σ H Q => tk σ H fun zs H2 => sp (gV [] zs) H2 Q (WE W σ)
theorem pe_callXK (F : HasX X.prog X.w X.K X.mg X.base x st k ps sp) (kb : ∀ f fd, Fun X.K x x st f fd → KBinds X.K fd ps ks g gV) (hr : Room j X.A) (tks : Takes X W) (hg : Gl X x) (hkw : PK X kws tk) (hk : k ≤ j := by decide)
    (hall : (backToKw pos (keywordEach kws X.env)).all (·.1.isSome) = true := by rfl) (hks : (backToKw pos (keywordEach kws X.env)).filterMap (·.1) = ks := by rfl) (hdb : (x == ("__debug__" : Str)) = false := by decide)
    (hpl : ((backTo pos (starEach [] X.env)).any (·.1) || (backToKw pos (keywordEach kws X.env)).any (·.1.isNone)) = false := by rfl) :
    PE X (.Call (.Name x p) [] kws pos) (tCallXK sp gV W tk) := by
  obtain ⟨f, fd, F, m, fn, b⟩ := F
  refine ⟨fun pins s σ H Q I h => ?_⟩
  refine wpAny_Call_Name_kw (ld_glob I hg m ?_ hdb)
  refine PySem.W.callWith_KW0 (h₀ := X.base) I.ok.mod.kin fn.kp hall ?_ hpl
  have h : tk σ H fun zs H2 => sp (gV [] zs) H2 Q (WE W σ) := h
  refine thn (hkw.run pos pins s σ H _ I h) fun ws s2 ⟨zs, H2, I2, rz, q2⟩ => ⟨I2.kIn, ?_⟩
  rw [hks]
  have kb := kb f fd fn
  have r2 := kb.rel (vs := []) (us := []) .nil rz
  have hl : (g [] ws).length = ps.length := by rw [← r2.length]; exact F.len _ _ _ _ q2
  refine wpAny_call (codeAny_mono (F.run X.A X.stack s2 H2 ⟨[], ks.zip ws⟩ (g [] ws) (gV [] zs) Q (WE W σ) (hr.mono hk) I2.env0 (kb.to s2 [] ws I2.kIn hl) r2 q2) fun r s' hq => ?_)
  cases r with
  | error e => exact passAt tks σ pins H2 s2 e s' I2 hq
  | ok fl =>
    cases fl with
    | ret u => exact I2.after hq
    | next => exact False.elim hq
    | brk => exact False.elim hq
    | cont => exact False.elim hq
theorem sx_callXK {σ : L2.St} {H : Hp} {Q : VK} (q : tk σ H fun zs H2 => sp (gV [] zs) H2 Q (WE W σ)) : tCallXK sp gV W tk σ H Q := q
end
section
variable {σ : L2.St} {H : Hp} {Q : VK} {D : Ends} {W : WX} {ta : TA} {te : TE} {C : Addr}
theorem sx_raise1 (q : ta σ H fun vs H1 => ∃ v, vs = [v] ∧ ∀ d, H1 d = none → W (.ref C) (some d) σ (upd H1 d (.xd [(("at" : Str), v)]))) : tRaise1 C W ta D σ H := q
theorem sx_one {v : V} {R : V → Prop} (q : R v) : ∃ u, [v] = [u] ∧ R u := ⟨v, rfl, q⟩
theorem sx_xf {a : Addr} {cls : Value} {d : Option Addr} {f : Str} (q : te σ H fun x H1 => x = .ref a ∧ cls = .ref C ∧ ∃ (dd : Addr) (fs : List (Str × V)) (v : V), d = some dd ∧ H1 dd = some (.xd fs) ∧ fs.lookup f = some v ∧ Q v H1) : tXf a cls d C f te σ H Q := q
end
end G
namespace G
open PySem PySem.Spec PyProof.Rows L2
/-- the n-th def of a class -/
def clsMeth (s : Stmt) (n : Nat) : Stmt := match s with
  | .ClassDef _ _ _ b _ _ _ _ _ _ _ => b.getD n (.Pass ⟨0, 0, 0, 0⟩)
  | _ => .Pass ⟨0, 0, 0, 0⟩
theorem exm_own {K : PySem.W.Frag} {S : Addr} (h1 : PySem.W.subIn K (.ref S) (.type "BaseException") = some true) (h2 : PySem.W.isClsIn K S = true) (h3 : PySem.W.typeIn K (.ref S) = some (.type "type")) (h4 : PySem.W.subIn K (.ref S) (.ref S) = some true) : PySem.W.exmOne K (.ref S) (.ref S) = some true := by
  have e1 : (PySem.W.subIn K (.ref S) (.type "BaseException") == some true) = true := by rw [h1] <;> rfl
  have h2' : (PySem.W.clsIn K S).isSome = true := h2
  have e2 : ((PySem.W.clsIn K S).isSome && PySem.W.typeIn K (.ref S) == some (.type "type")) = true := by rw [h2', h3] <;> rfl
  show (if (PySem.W.subIn K (.ref S) (.type "BaseException") == some true) = true then (if ((PySem.W.clsIn K S).isSome && PySem.W.typeIn K (.ref S) == some (.type "type")) = true then PySem.W.subIn K (.ref S) (.ref S) else none) else none) = some true
  rw [if_pos e1, if_pos e2]
  exact h4
section
variable {K : PySem.W.Frag} {h : Heap} {mg : Str → Option Value}
theorem err_mk {x : Str} {xs : List Str} {C b fI : Addr} {nm q : Str} {N : Addr} {bs : List Value} {sn : List Str} {sub : List Value} {ab : Bool} {col : Option Bool} {dd : Option Addr} {m0 m1 m2 m3 m5 : Option Value} (X : K.In h) (G : h.Ns mainGlobals mg)
    (aC : PySem.W.nsIn K mainGlobals x = some (some (.ref C))) (xL : K.lookup C = some (excClassObj nm q C N bs [.ref b, .type "Exception", .type "BaseException", .type "object"] true sn sub ab col dd m0 m1 m2 m3 m5 "Exception.__new__"))
    (sa : PySem.W.findIn K (.ref C) "__setattr__" = some (some (.builtin "object.__setattr__"))) (ga : PySem.W.findIn K (.ref C) "__getattribute__" = some (some (.builtin "BaseException.__getattribute__"))) (gg : PySem.W.findIn K (.ref C) "__getattr__" = some none)
    (nb : ∀ y ∈ xs, PySem.W.findIn K (.ref C) y = some none) (a1 : PySem.W.findIn K (.ref C) "__init__" = some (some (.ref fI))) (t1 : PySem.W.typeIn K (.ref fI) = some (.type "function")) (kC : PySem.W.keepIn K (.ref C) = true) (eC : PySem.W.subIn K (.ref C) (.type "BaseException") = some true)
    (tC : PySem.W.typeIn K (.ref C) = some (.type "type")) (hC : PySem.W.hasDictIn K C = true) (iC : PySem.W.isClsIn K C = true) (sC : PySem.W.subIn K (.ref C) (.ref C) = some true) : GX.ErrC K mg x xs C fI :=
  { gC := PySem.W.mg_of X G aC, cls := ⟨nm, q, N, bs, b, sn, sub, ab, col, dd, m0, m1, m2, m3, m5, xL⟩, sa := sa, ga := ga, gg := gg, noN := nb, iC := a1, tC := t1, kC := kC, exC := eC, tyC := tC, hdC := hC, te := exm_own eC iC tC sC }
theorem err1_mk {x qn : Str} {st : Stmt} {C fI : Addr} {oc cd ct dc pm : Value} {od an : Option Addr} {sl : Array (Option Value)} (E : GX.ErrC K mg x ["at"] C fI)
    (ht : ∃ p1 p2 q1 q2 q3 q4, defArgs st = GX.nA [GX.nArg "self" p1, GX.nArg "at" p2] ∧ defBody st = [GX.nSet "at" q1 q2 q3 q4] ∧ defScope st = GX.nS ["at"])
    (l1 : K.lookup fI = some ⟨oc, od, .func (PySem.W.fnOf "__init__" qn (defArgs st) (defBody st) (defScope st) .none .none dc pm an cd ct), sl⟩) (c1 : PySem.W.codeIn K cd qn = true) : ∃ C fI, GX.Err1 K mg x C fI := by
  obtain ⟨p1, p2, q1, q2, q3, q4, e1, e2, e3⟩ := ht
  rw [e1, e2, e3] at l1
  exact ⟨C, fI, E, qn, oc, od, dc, pm, an, cd, ct, sl, p1, p2, q1, q2, q3, q4, l1, c1⟩
end
end G

/-! GD: displays of data, read in one go; a text so many times. -/
namespace G
open PySem PySem.Spec PyProof.Rows L2
/-! ### a text so many times -/
def rMulS : R2 := fun x y H Q => ∃ i n, x = .str i ∧ y = .int n ∧ MulOk i n ∧ Q (.str (Txt.mul i n)) H
theorem op_mulS {X : Cx} : OpR X (binaryOp .Mult) rMulS := by
  intro pins s σ H x y v u Q I rx ry h
  obtain ⟨i, n, rfl, rfl, ok, q⟩ := h
  obtain ⟨t, rfl⟩ := rx
  obtain ⟨t', rfl⟩ := ry
  exact SB.mul ok fun t2 k => ⟨.str (Txt.mul i n), H, I.tok _, ⟨_, rfl⟩, q⟩
/-! ### a value of data, whatever is frozen beside -/
def DV (K : PySem.W.Frag) (te : TE) (σ : L2.St) (B : Hp) (d : PyData) : Prop := ∀ (B1 H1 : Hp) (Q : VK), Ex B B1 → Ex B1 H1 → (∀ v B' H', Nx [] B1 H1 B' H' → Dp K B' v d → Q v H') → te σ H1 Q
def DVs (K : PySem.W.Frag) (ta : TA) (σ : L2.St) (B : Hp) (ds : List PyData) : Prop := ∀ (B1 H1 : Hp) (Q : List V → Hp → Prop), Ex B B1 → Ex B1 H1 → (∀ vs B' H', Nx [] B1 H1 B' H' → DpAll K B' vs ds → Q vs H') → ta σ H1 Q
section
variable {K : PySem.W.Frag} {σ : L2.St} {B H : Hp} {te : TE} {ta : TA} {d : PyData} {ds : List PyData}
theorem DV.str {s : Str} : DV K (tC (.str s)) σ B (.str s) := fun B1 H1 Q _ e1 q => q _ B1 H1 (Nx.refl e1) (.str s)
theorem DV.int {i : Int} : DV K (tC (.int i)) σ B (.int i) := fun B1 H1 Q _ e1 q => q _ B1 H1 (Nx.refl e1) (.int i)
theorem DV.bl {b : Bool} : DV K (tC (.bl b)) σ B (.bool b) := fun B1 H1 Q _ e1 q => q _ B1 H1 (Nx.refl e1) (.bl b)
theorem DV.non : DV K (tC .non) σ B .none := fun B1 H1 Q _ e1 q => q _ B1 H1 (Nx.refl e1) .non
theorem DV.neg {i : Int} : DV K (tUn (rU fun i => .int (-i)) (tC (.int i))) σ B (.int (-i)) := fun B1 H1 Q _ e1 q => ⟨i, rfl, q _ B1 H1 (Nx.refl e1) (.int (-i))⟩
theorem DV.var {i : Nat} {v : V} (h : σ[i]? = some (some v)) (hd : Dp K B v d) : DV K (tVar i) σ B d := fun B1 H1 Q e e1 q => ⟨v, h, q v B1 H1 (Nx.refl e1) (Dp.up e hd)⟩
theorem DVs.nil : DVs K tNil σ B [] := fun B1 H1 Q _ e1 q => q [] B1 H1 (Nx.refl e1) .nil
theorem DVs.cons (h : DV K te σ B d) (k : DVs K ta σ B ds) : DVs K (tCons te ta) σ B (d :: ds) := fun B1 H1 Q e e1 q =>
  h B1 H1 _ e e1 fun v B2 H2 n2 dv => k B2 H2 _ (e.trans n2.b) n2.h fun vs B3 H3 n3 dvs => q _ B3 H3 (n2.tr n3) (.cons (Dp.up n3.b dv) dvs)
theorem DV.tup (h : DVs K ta σ B ds) (hz : ds.length ≤ 100000) : DV K (tTup ta) σ B (.tuple ds) := fun B1 H1 Q e e1 q =>
  h B1 H1 _ e e1 fun vs B2 H2 n2 dvs => sx_newT n2.h dvs hz fun p B3 H3 hp n3 d3 => q _ B3 H3 (n2.tr n3) d3
theorem DV.lst (h : DVs K ta σ B ds) (hz : ds.length ≤ 100000) : DV K (tLst ta) σ B (.list ds) := fun B1 H1 Q e e1 q =>
  h B1 H1 _ e e1 fun vs B2 H2 n2 dvs => sx_newL n2.h dvs hz fun p B3 H3 hp n3 d3 => q _ B3 H3 (n2.tr n3) d3
theorem DV.ixT {i : Int} (h : DV K te σ B (.tuple ds)) (ha : atI ds i = some d) : DV K (tOp (rIxT K) te (tC (.int i))) σ B d := fun B1 H1 Q e e1 q =>
  h B1 H1 _ e e1 fun v B2 H2 n2 dv => sx_ixTd dv n2.h ha fun u du => q u B2 H2 n2 du
theorem DV.mulS {s : Str} {n : Int} (h : DV K te σ B (.str s)) (ok : MulOk s n) : DV K (tOp rMulS te (tC (.int n))) σ B (.str (Txt.mul s n)) := fun B1 H1 Q e e1 q =>
  h B1 H1 _ e e1 fun v B2 H2 n2 dv => ⟨s, n, Dp.str_v dv, rfl, ok, q _ B2 H2 n2 (.str _)⟩
theorem DV.listT (h : DV K te σ B (.tuple ds)) : DV K (tCB (rListOf K) (tCons te tNil)) σ B (.list ds) := fun B1 H1 Q e e1 q =>
  h B1 H1 _ e e1 fun v B2 H2 n2 dv => by
    obtain ⟨a, xs, rfl, hs, hd⟩ := Dp.tup_v dv
    exact ⟨a, xs, rfl, .inr (n2.h.t hs), fun l hl => q _ (upd B2 l (.lst xs)) _ (n2.tr (Nx.new n2.h hl)) (.lst (SqL.of upd_same) (Dps.up (Ex.new (n2.h.free hl)) hd))⟩
theorem DV.ix0 {i : Nat} {v : V} (h : σ[i]? = some (some v)) (hd : Dp K B v (.tuple (d :: ds))) : DV K (tOp (rIxT K) (tVar i) (tC (.int 0))) σ B d := DV.ixT (DV.var h hd) at0
/-- .. read -/
theorem sx_dv {Q : VK} (h : DV K te σ B d) (e : Ex B H) (q : ∀ v B' H', Nx [] B H B' H' → Dp K B' v d → Q v H') : te σ H Q := h B H Q (Ex.refl _) e q
theorem sx_dvs {Q : List V → Hp → Prop} (h : DVs K ta σ B ds) (e : Ex B H) (q : ∀ vs B' H', Nx [] B H B' H' → DpAll K B' vs ds → Q vs H') : ta σ H Q := h B H Q (Ex.refl _) e q
/-- a list that may change -/
def tLstD (ta : TA) : TE := tLst ta
def tTupD (ta : TA) : TE := tTup ta
theorem sx_lstD {Q : VK} (h : DVs K ta σ B ds) (e : Ex B H) (hz : ds.length ≤ 100000) (q : ∀ p xs B' H', H p = none → Nx [] B H B' H' → Mu B' H' p xs → DpAll K B' xs ds → Q (.ref p) H') : tLstD ta σ H Q :=
  h B H _ (Ex.refl _) e fun vs B2 H2 n2 dvs => sx_newM (B := B2) n2.h (by rw [Dps.len dvs]; exact hz) fun p H3 hp n3 m3 => q p vs B2 H3 (n2.ex.free hp) (n2.tr n3) m3 dvs
theorem sx_tupD {Q : VK} (h : DVs K ta σ B ds) (e : Ex B H) (hz : ds.length ≤ 100000) (q : ∀ v B' H', Nx [] B H B' H' → Dp K B' v (.tuple ds) → Q v H') : tTupD ta σ H Q := sx_dv (DV.tup h hz) e q
end
section
variable {X : Cx} {es : List Expr} {t : TA} {pos : Pos}
theorem pe_lstD (h : PA X es t) : PE X (.List es pos) (tLstD t) := pe_lst h
theorem pe_tupD {c} (h : PA X es t) : PE X (.Tuple es c pos) (tTupD t) := pe_tup h
end
end G

namespace G
open PySem L2
/-! ### draws: a list of a list of numbers and a number -/
def big : Int := 10 ^ 384
structure Deal (B H : Hp) (d l : Addr) : Prop where
  ex : ∃ (cs : List Int) (mix : Int), Mu B H d [.ref l, .int mix] ∧ Mu B H l (cs.map V.int) ∧ (∀ c ∈ cs, 0 ≤ c ∧ c < big) ∧ cs.length ≤ 63 ∧ 0 ≤ mix ∧ mix < 2147483647
theorem Deal.ne {B H : Hp} {d l : Addr} (h : Deal B H d l) : d ≠ l := by
  obtain ⟨cs, mix, m1, m2, _⟩ := h
  intro e
  subst e
  have := m1.h.symm.trans m2.h
  cases cs with
  | nil => cases this
  | cons c r => cases this
theorem Deal.off {B H : Hp} {d l p : Addr} (h : Deal B H d l) (hp : H p = none) : p ≠ d ∧ p ≠ l := by
  obtain ⟨cs, mix, m1, m2, _⟩ := h
  exact ⟨m1.ne hp, m2.ne hp⟩
theorem Deal.up {M : List Addr} {B H B' H' : Hp} {d l : Addr} (h : Deal B H d l) (n : Nx M B H B' H') (hm : d ∉ M ∧ l ∉ M := by simp) : Deal B' H' d l := by
  obtain ⟨cs, mix, m1, m2, r⟩ := h
  exact ⟨cs, mix, m1.up n hm.1, m2.up n hm.2, r⟩
theorem Deal.in {B H : Hp} {d l : Addr} (h : Deal B H d l) : ∀ a ∈ [d, l], H a ≠ none := by
  obtain ⟨cs, mix, m1, m2, _⟩ := h
  intro a ha
  simp only [List.mem_cons, List.not_mem_nil, or_false] at ha
  rcases ha with rfl | rfl
  · rw [m1.h]; exact fun z => nomatch z
  · rw [m2.h]; exact fun z => nomatch z
/-- steps of draws -/
theorem Deal.tr {B H B1 H1 B2 H2 : Hp} {d l : Addr} (m : Nx [d, l] B H B1 H1) (k : Deal B1 H1 d l) (n : Nx [d, l] B1 H1 B2 H2) : Nx [d, l] B H B2 H2 := m.trans n fun a ha _ => k.in a ha
theorem Nx.go {M N : List Addr} {B H B1 H1 B2 H2 : Hp} (n : Nx M B H B1 H1) (m : Nx N B1 H1 B2 H2) (hN : ∀ a ∈ N, a ∈ M ∨ H a = none) (hM : ∀ a ∈ M, H a ≠ none → H1 a ≠ none) : Nx M B H B2 H2 :=
  ⟨n.b.trans m.b, m.h, fun a o h q => m.k a o (n.k a o h q) fun z => (by
    rcases hN a z with h1 | h1
    · exact q h1
    · rw [h1] at h; cases h), fun a h q => m.f a (n.f a h q) (by
    by_cases z : a ∈ M
    · exact hM a z q
    · intro y
      cases e : H a with
      | none => exact q e
      | some o => rw [n.k a o e z] at y; cases y)⟩
/-- a step behind draws -/
theorem Deal.go {N : List Addr} {B H B1 H1 B2 H2 : Hp} {d l : Addr} (n : Nx [d, l] B H B1 H1) (D : Deal B1 H1 d l) (m : Nx N B1 H1 B2 H2) (hN : ∀ a ∈ N, a ∈ [d, l] ∨ H a = none := by simp) : Nx [d, l] B H B2 H2 := n.go m hN fun a ha _ => D.in a ha
/-- pure first, then draws -/
theorem Deal.via {B H B1 H1 B2 H2 : Hp} {d l : Addr} (n : Nx [] B H B1 H1) (D : Deal B1 H1 d l) (m : Nx [d, l] B1 H1 B2 H2) : Nx [d, l] B H B2 H2 := (n.wk (by simp)).trans m fun a ha _ => D.in a ha
end G
namespace C
open PySem L2 G
/-! ### the text by places -/
def top (i : Nat) : Stmt := PySem.Challenge.pw_typedback_k20_patterns_are_let_or_refuse.main.body.getD i (.Pass ⟨0, 0, 0, 0⟩)
abbrev s_is_tuple : Stmt := top 4
abbrev s_is_worded : Stmt := top 10
abbrev s_is_letter_of : Stmt := top 11
abbrev s_parts_of : Stmt := top 12
abbrev s_first_wrong_part : Stmt := top 13
abbrev s_need_pattern : Stmt := top 14
abbrev s_law_deal : Stmt := top 16
abbrev s_law_any : Stmt := top 17
abbrev s_law_of : Stmt := top 18
abbrev s_law_mixed : Stmt := top 19
abbrev s_law_same : Stmt := top 20
abbrev s_law_all : Stmt := top 21
abbrev s_law_alphabet : Stmt := top 22
abbrev s_law_grown : Stmt := top 23
abbrev s_law_refused_part : Stmt := top 24
abbrev s_law_ways : Stmt := top 25
abbrev s_law_with : Stmt := top 26
abbrev s_law : Stmt := top 27
structure Txt (w : World) (K : PySem.W.Frag) (mg : Str → Option Value) : Prop where
  d_is_tuple : Df K mg "is_tuple" s_is_tuple
  d_is_worded : Df K mg "is_worded" s_is_worded
  d_is_letter_of : Df K mg "is_letter_of" s_is_letter_of
  d_parts_of : Df K mg "parts_of" s_parts_of
  d_first_wrong_part : Df K mg "first_wrong_part" s_first_wrong_part
  d_need_pattern : Df K mg "need_pattern" s_need_pattern
  d_law_deal : Df K mg "_law_deal" s_law_deal
  d_law_any : Df K mg "_law_any" s_law_any
  d_law_of : Df K mg "_law_of" s_law_of
  d_law_mixed : Df K mg "_law_mixed" s_law_mixed
  d_law_same : Df K mg "_law_same" s_law_same
  d_law_all : Df K mg "_law_all" s_law_all
  d_law_alphabet : Df K mg "_law_alphabet" s_law_alphabet
  d_law_grown : Df K mg "_law_grown" s_law_grown
  d_law_refused_part : Df K mg "_law_refused_part" s_law_refused_part
  d_law_ways : Df K mg "_law_ways" s_law_ways
  d_law_with : Df K mg "_law_with" s_law_with
  d_law : Df K mg "law" s_law
  b_abs : mg "abs" = none
  b_bool : mg "bool" = none
  b_int : mg "int" = none
  b_isinstance : mg "isinstance" = none
  b_len : mg "len" = none
  b_list : mg "list" = none
  b_max : mg "max" = none
  b_range : mg "range" = none
  b_sorted : mg "sorted" = none
  b_str : mg "str" = none
  b_tuple : mg "tuple" = none
  g_LETTER : ∃ t, mg "LETTER" = some (.str "letter" t)
  g_ALONE : ∃ a, mg "ALONE" = some (.ref a) ∧ ∀ H', SqT K H' a [.str "any", .str "blank", .str "nothing"]
  g_SINGLE : ∃ a, mg "SINGLE" = some (.ref a) ∧ ∀ H', SqT K H' a [.str "many", .str "not"]
  g_PAIRED : ∃ a, mg "PAIRED" = some (.ref a) ∧ ∀ H', SqT K H' a [.str "or", .str "and", .str "then"]
  e_InvalidPattern : ∃ C fI, GX.Err1 K mg "InvalidPattern" C fI
theorem sc_is_tuple : FnScope ["value", "many"] ["value", "many"] (defScope s_is_tuple) := ⟨rfl, rfl, rfl, by decide +kernel, rfl, by decide +kernel, by decide +kernel⟩
theorem sc_is_worded : FnScope ["value"] ["value"] (defScope s_is_worded) := ⟨rfl, rfl, rfl, by decide +kernel, rfl, by decide +kernel, by decide +kernel⟩
theorem sc_is_letter_of : FnScope ["letters", "value"] ["letters", "value"] (defScope s_is_letter_of) := ⟨rfl, rfl, rfl, by decide +kernel, rfl, by decide +kernel, by decide +kernel⟩
theorem sc_parts_of : FnScope ["letters", "value", "word"] ["letters", "value"] (defScope s_parts_of) := ⟨rfl, rfl, rfl, by decide +kernel, rfl, by decide +kernel, by decide +kernel⟩
theorem sc_first_wrong_part : FnScope ["letters", "value", "todo", "number", "parts"] ["letters", "value"] (defScope s_first_wrong_part) := ⟨rfl, rfl, rfl, by decide +kernel, rfl, by decide +kernel, by decide +kernel⟩
theorem sc_need_pattern : FnScope ["letters", "value", "at"] ["letters", "value"] (defScope s_need_pattern) := ⟨rfl, rfl, rfl, by decide +kernel, rfl, by decide +kernel, by decide +kernel⟩
theorem sc_law_deal : FnScope ["script", "salt", "most", "cells", "cell", "mix"] ["script", "salt"] (defScope s_law_deal) := ⟨rfl, rfl, rfl, by decide +kernel, rfl, by decide +kernel, by decide +kernel⟩
theorem sc_law_any : FnScope ["deal", "bound", "rest"] ["deal", "bound"] (defScope s_law_any) := ⟨rfl, rfl, rfl, by decide +kernel, rfl, by decide +kernel, by decide +kernel⟩
theorem sc_law_of : FnScope ["deal", "some"] ["deal", "some"] (defScope s_law_of) := ⟨rfl, rfl, rfl, by decide +kernel, rfl, by decide +kernel, by decide +kernel⟩
theorem sc_law_mixed : FnScope ["deal", "some", "left", "found", "turn"] ["deal", "some"] (defScope s_law_mixed) := ⟨rfl, rfl, rfl, by decide +kernel, rfl, by decide +kernel, by decide +kernel⟩
theorem sc_law_same : FnScope ["told", "due", "at"] ["told", "due"] (defScope s_law_same) := ⟨rfl, rfl, rfl, by decide +kernel, rfl, by decide +kernel, by decide +kernel⟩
theorem sc_law_all : FnScope ["pairs", "told", "due"] ["pairs"] (defScope s_law_all) := ⟨rfl, rfl, rfl, by decide +kernel, rfl, by decide +kernel, by decide +kernel⟩
theorem sc_law_alphabet : FnScope ["deal", "most", "many"] ["deal", "most"] (defScope s_law_alphabet) := ⟨rfl, rfl, rfl, by decide +kernel, rfl, by decide +kernel, by decide +kernel⟩
theorem sc_law_grown : FnScope ["deal", "letters", "size", "heap", "turn", "sort", "letter", "one", "other"] ["deal", "letters", "size"] (defScope s_law_grown) := ⟨rfl, rfl, rfl, by decide +kernel, rfl, by decide +kernel, by decide +kernel⟩
theorem sc_law_refused_part : FnScope ["letters", "value", "is_named", "told", "e"] ["letters", "value", "is_named"] (defScope s_law_refused_part) := ⟨rfl, rfl, rfl, by decide +kernel, rfl, by decide +kernel, by decide +kernel⟩
theorem sc_law_ways : FnScope ["pattern", "todo", "found", "way", "here", "at"] ["pattern"] (defScope s_law_ways) := ⟨rfl, rfl, rfl, by decide +kernel, rfl, by decide +kernel, by decide +kernel⟩
theorem sc_law_with : FnScope ["pattern", "way", "thing", "chain", "at", "late", "spot", "here"] ["pattern", "way", "thing"] (defScope s_law_with) := ⟨rfl, rfl, rfl, by decide +kernel, rfl, by decide +kernel, by decide +kernel⟩
theorem sc_law : FnScope ["script", "deal", "pairs", "turn", "letters", "pattern", "ways", "one", "bad", "again", "at", "late", "deeper", "beside"] ["script"] (defScope s_law) := ⟨rfl, rfl, rfl, by decide +kernel, rfl, by decide +kernel, by decide +kernel⟩
end C
local macro_rules | `(tactic| walk_at "exs") => `(tactic| repeat (first | with_reducible exact G.Ex.refl _ | with_reducible assumption | with_reducible exact G.Nx.b (by with_reducible assumption) | with_reducible exact G.Nx.h (by with_reducible assumption) | (refine G.Ex.trans ?_ (G.Nx.b (by with_reducible assumption)))))
local macro_rules | `(tactic| walk_at "e") => `(tactic| first | with_reducible assumption | exact G.Nx.h (by with_reducible assumption))
local macro_rules | `(tactic| walk_at "d") => `(tactic| first | with_reducible assumption | (refine G.Dp.up (B := ?_) ?_ (by with_reducible assumption); walk_at "exs") | (refine G.Dps.up (B := ?_) ?_ (by with_reducible assumption); walk_at "exs"))
local macro_rules | `(tactic| walk_at "sx2") => `(tactic| first
  | (with_reducible refine G.sx_mod ?h ?_; (case h => first | omega | assumption))
  | (with_reducible refine G.sx_div ?h ?h1 ?_; (case h => first | omega | assumption); (case h1 => first | omega | assumption))
  | (with_reducible refine G.sx_mul64 ?h ?h1 ?_; (case h => omega); (case h1 => omega)))
local macro_rules | `(tactic| walk_at "sx1") => `(tactic| with_reducible (first
  | refine G.sx_seq ?_ | refine G.sx_asg ?_ | refine G.sx_gname ?_ | refine G.sx_drop ?_ | refine G.sx_ret ?_ | refine G.sx_retN ?_ | refine G.sx_ifS ?_ | refine G.sx_next ?_ | refine G.sx_par ?_ | refine G.sx_par2 ?_ | refine G.sx_lcL ?_ | refine G.sx_lcT ?_ | refine G.sx_lcR ?_ | refine G.sx_forL ?_ | refine G.sx_forT ?_ | refine G.sx_forR ?_ | refine G.sx_forR2 ?_ | refine G.sx_forD ?_ | refine G.sx_lcD ?_ | refine G.sx_sl ?_ | refine G.sx_noPart ?_ | refine G.sx_part ?_ | refine G.sx_isI ?_ | refine G.sx_revL ?_
  | refine G.sx_var rfl ?_ | refine G.sx_c ?_ | refine G.sx_op ?_ | refine G.sx_un ?_ | refine G.sx_I0 ?_ | refine G.sx_U ?_ | refine G.sx_isBV ?_ | refine G.sx_isN ?_ | refine G.sx_notN ?_ | refine G.sx_test ?_ | refine G.sx_tB ?_ | refine G.sx_isB ?_
  | refine G.sx_not ?_ | refine G.sx_and ?_ | refine G.sx_or ?_ | refine G.sx_andV ?_ | refine G.sx_orV ?_ | refine G.sx_notV ?_ | refine G.sx_if ?_ | refine G.sx_nil ?_ | refine G.sx_cons ?_ | refine G.sx_cb ?_ | refine G.sx_call ?_
  | refine G.sx_ixL (G.Mu.sq (by with_reducible assumption)) rfl ?_ | refine G.sx_ixL (by with_reducible assumption) rfl ?_ | refine G.sx_ixT (by with_reducible assumption) rfl ?_
  | refine G.sx_isInt (by walk_at "d") (by walk_at "e") ?_ | refine G.sx_isBool (by walk_at "d") (by walk_at "e") ?_ | refine G.sx_isStr (by walk_at "d") (by walk_at "e") ?_ | refine G.sx_isTup (by walk_at "d") (by walk_at "e") ?_ | refine G.sx_isList (by walk_at "d") (by walk_at "e") ?_ | refine G.sx_isDict (by walk_at "d") (by walk_at "e") ?_
  | refine G.sx_bm0 ?_ | refine G.sx_bm ?_ | refine G.sx_tyL (by with_reducible assumption) ?_ | refine G.sx_tyL (G.Mu.sq (by with_reducible assumption)) ?_ | refine G.sx_gsub ?_ | refine G.sx_GT ?_ | refine G.sx_GD ?_ | refine G.sx_yes ?_ | refine G.sx_tupF ?_ | refine G.sx_revT ?_ | refine G.sx_callK ?_ | refine G.sx_dget ?_ | refine G.sx_tup ?_ | refine G.sx_lst ?_
  | refine G.sx_lenL (by with_reducible assumption) ?_ | refine G.sx_lenL (G.Mu.sq (by with_reducible assumption)) ?_ | refine G.sx_int ?_ | refine G.sx_abs ?_ | refine G.sx_min ?_ | refine G.sx_max ?_ | refine G.sx_raise1 ?_ | refine G.sx_one ?_ | refine G.sx_xf ?_ | refine G.sx_callS ?_ | refine G.sx_callXK ?_ | refine G.sx_eq rfl ?_ | refine G.sx_ne rfl ?_))
local macro_rules | `(tactic| walk_at "sx") => `(tactic| repeat (first | walk_at "sx1" | walk_at "sx2"))
local macro_rules | `(tactic| walk_at "st") => `(tactic| simp only [List.set_cons_zero, List.set_cons_succ, L2.wipe, List.map_cons, List.map_nil])
local macro_rules | `(tactic| walk_at "go") => `(tactic| ((try dsimp only [L2.cxOf, L2.Cx.nox, L2.Cx.wish]); simp only [L2.start, List.map_cons, List.map_nil, List.length_cons, List.length_nil, Nat.zero_add, Nat.reduceAdd, Nat.reduceSub, List.reduceReplicate, List.cons_append, List.nil_append]; walk_at "sx"))
local macro_rules | `(tactic| walk_at "dv") => `(tactic| repeat' (first
  | with_reducible exact G.DVs.nil | with_reducible refine G.DVs.cons ?_ ?_ | with_reducible exact G.DV.str | with_reducible exact G.DV.int | with_reducible exact G.DV.bl | with_reducible exact G.DV.non | with_reducible exact G.DV.neg
  | exact G.DV.var rfl (by walk_at "d") | with_reducible refine G.DV.tup ?_ ?_ | with_reducible refine G.DV.lst ?_ ?_ | with_reducible refine G.DV.listT ?_ | exact G.DV.ix0 rfl (by walk_at "d") | refine G.DV.mulS ?_ ?_
  | ((with_reducible refine Nat.le_of_ble_eq_true ?_); rfl) | assumption))
namespace C
open PySem L2 G
section
variable {P : Program} {w : World} {K : PySem.W.Frag} {mg : Str → Option Value} {base : Heap}
/-- _law_any: a number below a bound -/
def spAny : Sp := fun vs H Q _ => ∃ (B : Hp) (d l : Addr) (b : Int), vs = [.ref d, .int b] ∧ Ex B H ∧ Deal B H d l ∧ 0 < b ∧ b < 1073741824 ∧
  ∀ B' H' r, Nx [d, l] B H B' H' → Deal B' H' d l → 0 ≤ r → r < b → Q (.int r) H'
theorem ok_law_any (T : Txt w K mg) : Has P w K mg base "_law_any" s_law_any 1 ["deal", "bound"] spAny := by
  refine has_mk T.d_law_any sc_law_any (fun _ _ _ _ _ _ us hl => match us, hl with | [_, _], _ => rfl) (fun vs H Q E h => ?_) (fun f cdv A outer s H vs Q E hr h => ?_)
  · obtain ⟨_, _, _, _, rfl, _⟩ := h
    rfl
  · obtain ⟨B, d, l, b, rfl, e, hD, b0, b1, k⟩ := h
    refine ⟨_, (G.pss_cut (ps_while PassesOwn.never (PW.pt (pw_and (pt_cmpR op_gt (pe_callB cl_len (by rfl) T.b_len (by decide +kernel) (pa_cons (pe_ix ix_list (pv 0) pe_int (fun _ _ => rfl)) pa_nil)) pe_int (nomark _)) (pw_and1 (pt_cmpR op_eq (pe_ix ix_list (pe_ix ix_list (pv 0) pe_int (fun _ _ => rfl)) (pe_un un_neg pe_int) (fun _ _ => rfl)) pe_int (nomark _)))))
      (pss_one (ps_expr (pe_bm0 PySem.F.plainAttrs_list PySem.F.slot_list_pop PySem.F.type_list_pop mt_pop (pe_ix ix_list (pv 0) pe_int (fun _ _ => rfl))))))
      (pss_cons (ps_if (pt_cmpR op_gt (pe_callB cl_len (by rfl) T.b_len (by decide +kernel) (pa_cons (pe_ix ix_list (pv 0) pe_int (fun _ _ => rfl)) pa_nil)) pe_int (nomark _))
      (pss_cons (ps_set (i := 2) sc_law_any.nd rfl (.inl rfl) (pe_callTy cl_int (by rfl) T.b_int (by decide +kernel) (pa_cons (pe_bm0 PySem.F.plainAttrs_list PySem.F.slot_list_pop PySem.F.type_list_pop mt_pop (pe_ix ix_list (pv 0) pe_int (fun _ _ => rfl))) pa_nil)))
      (pss_cons (ps_expr (pe_bm PySem.F.plainAttrs_list PySem.F.slot_list_append PySem.F.type_list_append mt_append (pe_ix ix_list (pv 0) pe_int (fun _ _ => rfl)) (pa_cons (pe_op op_fdiv (pv 2) (pv 1)) pa_nil)))
      (pss_one (ps_ret (pe_op op_mod (pv 2) (pv 1))))))
      pss_nil)
      (pss_cons (ps_asg (pe_op op_mod (pe_callTy cl_int (by rfl) T.b_int (by decide +kernel) (pa_cons (pe_op op_add (pe_op op_mulW (pe_ix ix_list (pv 0) pe_int (fun _ _ => rfl)) pe_int) pe_int) pa_nil)) pe_int) (pg_sub (pv 0) pe_int set_list))
      (pss_one (ps_ret (pe_op op_mod (pe_callTy cl_int (by rfl) T.b_int (by decide +kernel) (pa_cons (pe_op op_fdiv (pe_ix ix_list (pv 0) pe_int (fun _ _ => rfl)) pe_int) pa_nil)) (pv 1))))))), ?_⟩
    have hne := hD.ne
    walk_at "go"
    refine G.sx_cut (fun σ H' => ∃ (B' : Hp) (cs : List Int) (mix : Int), σ = [some (.ref d), some (.int b), none] ∧ Nx [d, l] B H B' H' ∧ Mu B' H' d [.ref l, .int mix] ∧ Mu B' H' l (cs.map V.int) ∧ (∀ c ∈ cs, 0 ≤ c ∧ c < big) ∧ cs.length ≤ 63 ∧ 0 ≤ mix ∧ mix < 2147483647) ?_ ?_
    · refine ⟨fun m σ H' => ∃ (B' : Hp) (cs : List Int) (mix : Int), m = cs.length ∧ σ = [some (.ref d), some (.int b), none] ∧ Nx [d, l] B H B' H' ∧ Mu B' H' d [.ref l, .int mix] ∧ Mu B' H' l (cs.map V.int) ∧ (∀ c ∈ cs, 0 ≤ c ∧ c < big) ∧ cs.length ≤ 63 ∧ 0 ≤ mix ∧ mix < 2147483647, ?_, ?_⟩
      · obtain ⟨cs, mix, m1, m2, r1, r2, r3, r4⟩ := hD
        exact ⟨_, B, cs, mix, rfl, rfl, Nx.refl e, m1, m2, r1, r2, r3, r4⟩
      · rintro m σ H1 ⟨B1, cs, mix, rfl, rfl, n1, m1, m2, r1, r2, r3, r4⟩
        walk_at "sx"
        by_cases hz : cs = []
        · refine ifF (dF (by rw [hz]; simp)) ?_
          exact ⟨B1, cs, mix, rfl, n1, m1, m2, r1, r2, r3, r4⟩
        · obtain ⟨r, z, rfl⟩ := snoc_of hz
          have hin : ∀ a ∈ [d, l], H a ≠ none → H1 a ≠ none := fun a ha _ => (⟨_, _, m1, m2, r1, r2, r3, r4⟩ : Deal B1 H1 d l).in a ha
          refine ifT (dT (by simp)) ?_
          walk_at "sx"
          rw [List.map_append] at m2
          refine sx_ixL m2.sq atI_end ?_
          walk_at "sx"
          by_cases h0 : z = 0
          · refine ifT (int_eqT h0) ?_
            refine ⟨_, fun _ _ h => h, ?_⟩
            walk_at "sx"
            refine sx_pop m2 n1.h fun H2 n2 m2' => ?_
            refine ⟨r.length, by simp, B1, r, mix, rfl, rfl, n1.trans (n2.wk (by simp)) hin, m1.up n2 (by simp [hne]), by simpa using m2', fun c hc => r1 c (by simp [hc]), by simp at r2; omega, r3, r4⟩
          · refine ifF (int_eqF h0) ?_
            exact ⟨B1, r ++ [z], mix, rfl, n1, m1, by rw [List.map_append]; exact m2, r1, r2, r3, r4⟩
    · rintro σ H1 ⟨B1, cs, mix, rfl, n1, m1, m2, r1, r2, r3, r4⟩
      have hin : ∀ a ∈ [d, l], H a ≠ none → H1 a ≠ none := fun a ha _ => (⟨_, _, m1, m2, r1, r2, r3, r4⟩ : Deal B1 H1 d l).in a ha
      walk_at "sx"
      by_cases hz : cs = []
      · refine ifF (dF (by rw [hz]; simp)) ?_
        walk_at "sx"
        refine sx_setL m1 n1.h rfl fun H2 n2 m1' => ?_
        walk_at "sx"
        refine k B1 H2 _ (n1.trans (n2.wk (by simp)) hin) ⟨cs, _, m1', m2.up n2 (by simp [hne.symm]), r1, r2, ?_, ?_⟩ (Int.emod_nonneg _ (by omega)) (Int.emod_lt_of_pos _ b0)
        · exact Int.emod_nonneg _ (by omega)
        · exact Int.emod_lt_of_pos _ (by omega)
      · obtain ⟨r, z, rfl⟩ := snoc_of hz
        have z0 := r1 z (by simp)
        refine ifT (dT (by simp)) ?_
        rw [List.map_append] at m2
        walk_at "sx"
        refine sx_pop m2 n1.h fun H2 n2 m2' => ?_
        have m1' := m1.up n2 (by simp [hne])
        walk_at "sx"
        refine sx_append m2' n2.h (by simp at r2 ⊢; omega) fun H3 n3 m2'' => ?_
        have m1'' := m1'.up n3 (by simp [hne])
        walk_at "sx"
        refine k B1 H3 _ ((n1.trans (n2.wk (by simp)) hin).trans (n3.wk (by simp)) ?_) ⟨r ++ [z / b], mix, m1'', ?_, ?_, ?_, r3, r4⟩ (Int.emod_nonneg _ (by omega)) (Int.emod_lt_of_pos _ b0)
        · intro a ha _
          simp only [List.mem_cons, List.not_mem_nil, or_false] at ha
          rcases ha with rfl | rfl
          · rw [m1'.h]; exact fun z => nomatch z
          · rw [m2'.h]; exact fun z => nomatch z
        · rw [List.map_append]
          exact m2''
        · intro c hc
          rcases List.mem_append.mp hc with h | h
          · exact r1 c (by simp [h])
          · rw [List.mem_singleton] at h
            subst h
            exact ⟨Int.ediv_nonneg z0.1 (by omega), Int.lt_of_le_of_lt (Int.ediv_le_self b z0.1) z0.2⟩
        · simp at r2 ⊢
          omega
end
end C
namespace C
open PySem L2 G
section
variable {P : Program} {w : World} {K : PySem.W.Frag} {mg : Str → Option Value} {base : Heap}
/-- _law_of: one of some things -/
def spOf (K : PySem.W.Frag) : Sp := fun vs H Q _ => ∃ (B : Hp) (d l a : Addr) (xs : List V), vs = [.ref d, .ref a] ∧ Ex B H ∧ Deal B H d l ∧ SqL K H a xs ∧ a ≠ d ∧ a ≠ l ∧ 0 < xs.length ∧ xs.length < 100000 ∧
  ∀ B' H' (i : Nat) v, Nx [d, l] B H B' H' → Deal B' H' d l → xs[i]? = some v → Q v H'
theorem ok_law_of (T : Txt w K mg) : Has P w K mg base "_law_of" s_law_of 2 ["deal", "some"] (spOf K) := by
  refine has_mk T.d_law_of sc_law_of (fun _ _ _ _ _ _ us hl => match us, hl with | [_, _], _ => rfl) (fun vs H Q E h => ?_) (fun f cdv A outer s H vs Q E hr h => ?_)
  · obtain ⟨_, _, _, _, _, rfl, _⟩ := h
    rfl
  · obtain ⟨B, d, l, a, xs, rfl, e, hD, hS, ad, al, x0, x1, k⟩ := h
    refine ⟨_, (pss_one (ps_ret (pe_ix ix_list (pv 1) (pe_callH (ok_law_any T) hr (by rfl) (pa_cons (pv 0) (pa_cons (pe_callB cl_len (by rfl) T.b_len (by decide +kernel) (pa_cons (pv 1) pa_nil)) pa_nil))) (fun _ _ => rfl)))), ?_⟩
    walk_at "go"
    refine ⟨B, d, l, _, rfl, e, hD, by omega, by omega, fun B1 H1 r n1 D1 r0 r1 => ?_⟩
    obtain ⟨i, rfl⟩ : ∃ i : Nat, r = (i : Int) := ⟨r.toNat, by omega⟩
    have hi : i < xs.length := by omega
    refine sx_ixL (n1.sq hS (by simp [ad, al])) (atI_nat (List.getElem?_eq_getElem hi)) ?_
    exact k B1 H1 i _ n1 D1 (List.getElem?_eq_getElem hi)
end
end C
namespace C
open PySem L2 G
section
variable {P : Program} {w : World} {K : PySem.W.Frag} {mg : Str → Option Value} {base : Heap}
/-- _law_deal: where draws come from -/
def spDeal (K : PySem.W.Frag) : Sp := fun vs H Q _ => ∃ (B : Hp) (a : Addr) (ns : List Int) (z : Int), vs = [.ref a, .int z] ∧ Ex B H ∧ SqL K H a (ns.map V.int) ∧ ns.length ≤ 63 ∧ 0 ≤ z ∧ z < 100000 ∧
  ∀ B' H' d l, Nx [] B H B' H' → Deal B' H' d l → Q (.ref d) H'
theorem pow64 : (10 : Int) ^ (64 : Int).toNat = 10 ^ 64 := rfl
theorem big_eq : (10 : Int) ^ 64 * 10 ^ 64 * 10 ^ 64 * 10 ^ 64 * 10 ^ 64 * 10 ^ 64 = big := by decide +kernel
def cell1 (v : V) : V := match v with
  | .int i => .int ((if i < 0 then -i else i) % big)
  | v => v
def cellOk (v : V) : Bool := match v with
  | .int i => decide (10 ^ 18 ≤ i)
  | _ => false
theorem ok_law_deal (T : Txt w K mg) : Has P w K mg base "_law_deal" s_law_deal 1 ["script", "salt"] (spDeal K) := by
  refine has_mk T.d_law_deal sc_law_deal (fun _ _ _ _ _ _ us hl => match us, hl with | [_, _], _ => rfl) (fun vs H Q E h => ?_) (fun f cdv A outer s H vs Q E hr h => ?_)
  · obtain ⟨_, _, _, _, rfl, _⟩ := h
    rfl
  · obtain ⟨B, a, ns, z, rfl, e, hS, hlen, z0, z1, k⟩ := h
    refine ⟨_, (pss_cons (ps_set (i := 2) sc_law_deal.nd rfl (.inr rfl) (pe_op op_mulW (pe_op op_mulW (pe_op op_mulW (pe_op op_mulW (pe_op op_mulW (pe_op op_pow pe_int pe_int) (pe_op op_pow pe_int pe_int)) (pe_op op_pow pe_int pe_int)) (pe_op op_pow pe_int pe_int)) (pe_op op_pow pe_int pe_int)) (pe_op op_pow pe_int pe_int)))
      (pss_cons (ps_setLc (i := 3) (own := [("cell", 4)]) (g := (gName 4)) rfl sc_law_deal.nd rfl rfl (sw_true rfl rfl rfl (by decide +kernel)) (pi_list (pe_slice sl_list (pv 0) po_none (po_some pe_int))) (blkOk_by (own := [("cell", 4)]) (N := ["script", "salt", "most", "cells", "cell", "mix"]) (sc := defScope s_law_deal) (by decide +kernel)) (fun _ _ _ _ _ => pg_name (i := 4) sc_law_deal.nd rfl (.inl rfl)) (fun _ _ _ _ _ => pts_nil) (fun _ _ _ _ _ => (pe_op op_mod (pe_callTy cl_int (by rfl) T.b_int (by decide +kernel) (pa_cons (pe_callB cl_abs (by rfl) T.b_abs (by decide +kernel) (pa_cons (pe_callTy cl_int (by rfl) T.b_int (by decide +kernel) (pa_cons (pv 4) pa_nil)) pa_nil)) pa_nil)) (pv 2))))
      (pss_cons (ps_set (i := 5) sc_law_deal.nd rfl (.inl rfl) (pe_op op_add pe_int (pe_op op_mulW pe_int (pv 1))))
      (pss_cons (ps_for PassesOwn.never rfl (pi_list (pv 3)) (pg_name (i := 4) sc_law_deal.nd rfl (.inl rfl))
      (pss_one (ps_set (i := 5) sc_law_deal.nd rfl (.inl rfl) (pe_op op_mod (pe_callTy cl_int (by rfl) T.b_int (by decide +kernel) (pa_cons (pe_op op_add (pe_op op_add (pe_op op_mulW (pv 5) pe_int) (pe_op op_mod (pe_callTy cl_int (by rfl) T.b_int (by decide +kernel) (pa_cons (pv 4) pa_nil)) pe_int)) pe_int) pa_nil)) pe_int))))
      (pss_one (ps_ret (pe_lst (pa_cons (pe_revL (pe_lc (own := [("cell", 4)]) (g := (gName 4)) rfl sc_law_deal.nd (pi_list (pv 3)) (blkOk_by (own := [("cell", 4)]) (N := ["script", "salt", "most", "cells", "cell", "mix"]) (sc := defScope s_law_deal) (by decide +kernel)) (fun _ _ _ _ _ => pg_name (i := 4) sc_law_deal.nd rfl (.inl rfl)) (fun _ _ _ _ _ => (pts_one (pt_cmpR op_ge (pv 4) (pe_op op_pow pe_int pe_int) (nomark _)))) (fun _ _ _ _ _ => (pv 4)))) (pa_cons (pv 5) pa_nil))))))))), ?_⟩
    walk_at "go"
    refine sx_pow (by decide) (by decide) (by decide) ?_
    walk_at "sx"
    refine sx_pow (by decide) (by decide) (by decide) ?_
    refine sx_mulW (a := 213) (b := 213) (by decide +kernel) (by decide +kernel) (by decide) (by decide) (by decide) ?_
    walk_at "sx"
    refine sx_pow (by decide) (by decide) (by decide) ?_
    refine sx_mulW (a := 426) (b := 213) (by decide +kernel) (by decide +kernel) (by decide) (by decide) (by decide) ?_
    walk_at "sx"
    refine sx_pow (by decide) (by decide) (by decide) ?_
    refine sx_mulW (a := 639) (b := 213) (by decide +kernel) (by decide +kernel) (by decide) (by decide) (by decide) ?_
    walk_at "sx"
    refine sx_pow (by decide) (by decide) (by decide) ?_
    refine sx_mulW (a := 852) (b := 213) (by decide +kernel) (by decide +kernel) (by decide) (by decide) (by decide) ?_
    walk_at "sx"
    refine sx_pow (by decide) (by decide) (by decide) ?_
    refine sx_mulW (a := 1065) (b := 213) (by decide +kernel) (by decide +kernel) (by decide) (by decide) (by decide) ?_
    rw [pow64, big_eq]
    walk_at "sx"
    refine sx_slL e hS fun p1 H1 hp1 n1 m1 => ?_
    rw [show (63 : Int) = ((63 : Nat) : Int) from rfl, cut_to, List.take_of_length_le (by simpa using hlen)] at m1
    refine sx_lcPure (fun _ => true) cell1 n1.h m1.sq (by simp; omega) (fun x => by simp [wipe]) (fun x _ H2 R e2 h => h) (fun x hx _ H2 R e2 h => ?_) fun p2 H2 hp2 n2 m2 => ?_
    · obtain ⟨i, _, rfl⟩ := List.mem_map.mp hx
      walk_at "st"
      walk_at "sx"
      refine sx_mod (by decide +kernel) ?_
      exact h
    rw [List.filter_eq_self.mpr (fun _ _ => rfl), List.map_map] at m2
    walk_at "sx"
    walk_at "st"
    obtain ⟨cs, hcs⟩ : ∃ cs : List Int, cs = ns.map (fun i => (if i < 0 then -i else i) % big) := ⟨_, rfl⟩
    have mc : ns.map (cell1 ∘ V.int) = cs.map V.int := by rw [hcs, List.map_map]; rfl
    have hc : ∀ c ∈ cs, 0 ≤ c ∧ c < big := fun c hc => by
      rw [hcs] at hc
      obtain ⟨i, _, rfl⟩ := List.mem_map.mp hc
      exact ⟨Int.emod_nonneg _ (by decide +kernel), Int.emod_lt_of_pos _ (by decide +kernel)⟩
    have hcl : cs.length ≤ 63 := by rw [hcs, List.length_map]; exact hlen
    rw [mc] at m2
    refine sx_forL_by m2.sq (fun i σ H' => H' = H2 ∧ ∃ mix y, 0 ≤ mix ∧ mix < 2147483647 ∧ σ = [some (.ref a), some (.int z), some (.int big), some (.ref p2), y, some (.int mix)]) ⟨rfl, _, _, by omega, by omega, rfl⟩ (fun i σ H' _ p => by rw [p.1]; exact m2.sq) (fun i x σ H' hx p => ?_) (fun σ H' p => ?_)
    · obtain ⟨rfl, mix, y, x0, x1, rfl⟩ := p
      obtain ⟨c, hc1, rfl⟩ := List.mem_map.mp (List.mem_of_getElem? hx)
      have := hc c hc1
      walk_at "sx"
      exact ⟨rfl, _, _, Int.emod_nonneg _ (by omega), Int.emod_lt_of_pos _ (by omega), rfl⟩
    · obtain ⟨rfl, mix, y, x0, x1, rfl⟩ := p
      walk_at "sx"
      refine sx_lcPure cellOk id n2.h m2.sq (by simp; omega) (fun x => by simp [wipe]) (fun x hx H3 R e3 h => ?_) (fun x hx _ H3 R e3 h => ?_) fun p3 H3 hp3 n3 m3 => ?_
      · obtain ⟨i, _, rfl⟩ := List.mem_map.mp hx
        walk_at "st"
        walk_at "sx"
        refine sx_pow (by decide) (by decide) (by decide) ?_
        walk_at "sx"
        exact h
      · walk_at "st"
        walk_at "sx"
        exact h
      rw [List.map_id] at m3
      refine sx_revL2 n3.h m3.sq fun p4 H4 hp4 n4 m4 => ?_
      walk_at "sx"
      refine sx_newM n4.h (by simp) fun p5 H5 hp5 n5 m5 => ?_
      obtain ⟨es, hes, h1, h2⟩ : ∃ es : List Int, ((cs.map V.int).filter cellOk).reverse = es.map V.int ∧ (∀ c ∈ es, c ∈ cs) ∧ es.length ≤ cs.length := by
        refine ⟨(cs.filter fun c => decide (10 ^ 18 ≤ c)).reverse, ?_, fun c hc => ?_, ?_⟩
        · rw [List.filter_map, List.map_reverse]
          rfl
        · rw [List.mem_reverse, List.mem_filter] at hc
          exact hc.1
        · rw [List.length_reverse]
          exact List.length_filter_le _ _
      rw [hes] at m4
      exact k B H5 p5 p4 ((((n1.tr n2).tr n3).tr n4).tr n5) ⟨es, mix, m5, m4.up n5, fun c h => hc c (h1 c h), by omega, x0, x1⟩
end
end C
namespace C
open PySem L2 G
section
variable {P : Program} {w : World} {K : PySem.W.Frag} {mg : Str → Option Value} {base : Heap}
/-! ### parts of patterns -/
def worded (d : PyData) : Bool := match d with
  | .tuple (.str _ :: _) => true
  | _ => false
def ltr (ls : List Str) (d : PyData) : Bool := match d with
  | .str z => decide (z ∈ ls)
  | _ => false
def ltP (ls : List Str) (ds : List PyData) : Option (List PyData) := match ds with
  | [x] => if ltr ls x = true then some [] else none
  | _ => none
def ptP (ls : List Str) (d : PyData) : Option (List PyData) := match d with
  | .tuple (.str w :: ds) => if w ∈ (["any", "blank", "nothing"] : List Str) then (if ds.length = 0 then some [] else none)
    else if w = "letter" then ltP ls ds
    else if w ∈ (["many", "not"] : List Str) then (if ds.length = 1 then some ds else none)
    else if w ∈ (["or", "and", "then"] : List Str) then (if ds.length = 2 then some ds else none)
    else none
  | _ => none
def spBl1 (K : PySem.W.Frag) (f : PyData → Bool) : Sp := fun vs H Q _ => ∃ (B : Hp) (x : V) (d : PyData), vs = [x] ∧ Ex B H ∧ Dp K B x d ∧ ∀ B' H', Nx [] B H B' H' → Q (.bl (f d)) H'
def spTupN (K : PySem.W.Frag) : Sp := fun vs H Q _ => ∃ (B : Hp) (x : V) (ds : List PyData) (n : Int), vs = [x, .int n] ∧ Ex B H ∧ Dp K B x (.tuple ds) ∧ Q (.bl (decide ((ds.length : Int) = n))) H
theorem ok_is_tuple (T : Txt w K mg) : Has P w K mg base "is_tuple" s_is_tuple 1 ["value", "many"] (spTupN K) := by
  refine has_mk T.d_is_tuple sc_is_tuple (fun _ _ _ _ _ _ us hl => match us, hl with | [_, _], _ => rfl) (fun vs H Q E h => ?_) (fun f cdv A outer s H vs Q E hr h => ?_)
  · obtain ⟨_, _, _, _, rfl, _⟩ := h
    rfl
  · obtain ⟨B, x, ds, n, rfl, e, hx, k⟩ := h
    refine ⟨_, (pss_one (ps_ret (pe_and (pe_callB call_isi (by rfl) T.b_isinstance (by decide +kernel) (pa_cons (pv 0) (pa_cons (pe_bT (n := "tuple") (by rfl) T.b_tuple (by decide +kernel)) pa_nil))) (pe_one (pe_cmpR op_eq (pe_callB cl_len (by rfl) T.b_len (by decide +kernel) (pa_cons (pv 0) pa_nil)) (pv 1) (nomark _)))))), ?_⟩
    walk_at "go"
    refine ifT rfl ?_
    walk_at "sx"
    refine sx_lenTd hx e ?_
    walk_at "sx"
    have : decide (V.int (ds.length : Int) = V.int n) = decide ((ds.length : Int) = n) := by
      by_cases h : (ds.length : Int) = n
      · rw [h]
        simp
      · rw [decide_eq_false h]
        exact int_eqF h
    rw [this]
    exact k
theorem ok_is_worded (T : Txt w K mg) : Has P w K mg base "is_worded" s_is_worded 1 ["value"] (spBl1 K worded) := by
  refine has_mk T.d_is_worded sc_is_worded (fun _ _ _ _ _ _ us hl => match us, hl with | [_], _ => rfl) (fun vs H Q E h => ?_) (fun f cdv A outer s H vs Q E hr h => ?_)
  · obtain ⟨_, _, _, rfl, _⟩ := h
    rfl
  · obtain ⟨B, x, d, rfl, e, hx, k⟩ := h
    refine ⟨_, (pss_one (ps_ret (pe_and (pe_callB call_isi (by rfl) T.b_isinstance (by decide +kernel) (pa_cons (pv 0) (pa_cons (pe_bT (n := "tuple") (by rfl) T.b_tuple (by decide +kernel)) pa_nil))) (pe_and (pe_cmpR (op_neNilT hr.units) (pv 0) (pe_tup pa_nil) (nomark _)) (pe_one (pe_callB call_isi (by rfl) T.b_isinstance (by decide +kernel) (pa_cons (pe_ix ix_tup (pv 0) pe_int (fun _ _ => rfl)) (pa_cons (pe_bT (n := "str") (by rfl) T.b_str (by decide +kernel)) pa_nil)))))))), ?_⟩
    walk_at "go"
    cases d with
    | tuple ds =>
      refine ifT rfl ?_
      walk_at "sx"
      refine sx_newTp e (by simp) fun p H1 hp n1 t1 => ?_
      refine sx_neTd hx n1.h t1 ?_
      walk_at "sx"
      cases ds with
      | nil =>
        refine ifF rfl ?_
        exact k B H1 n1
      | cons d0 r =>
        refine ifT rfl ?_
        walk_at "sx"
        refine sx_ixTd hx n1.h at0 fun v hv => ?_
        walk_at "sx"
        have k := k B H1 n1
        cases d0 <;> exact k
    | _ =>
      refine ifF rfl ?_
      exact k B H (Nx.refl e)
def spLtr (K : PySem.W.Frag) : Sp := fun vs H Q _ => ∃ (B : Hp) (a : Addr) (ls : List Str) (x : V) (d : PyData), vs = [.ref a, x] ∧ Ex B H ∧ SqT K B a (ls.map V.str) ∧ Dp K B x d ∧ Q (.bl (ltr ls d)) H
theorem ok_is_letter_of (T : Txt w K mg) : Has P w K mg base "is_letter_of" s_is_letter_of 1 ["letters", "value"] (spLtr K) := by
  refine has_mk T.d_is_letter_of sc_is_letter_of (fun _ _ _ _ _ _ us hl => match us, hl with | [_, _], _ => rfl) (fun vs H Q E h => ?_) (fun f cdv A outer s H vs Q E hr h => ?_)
  · obtain ⟨_, _, _, _, _, rfl, _⟩ := h
    rfl
  · obtain ⟨B, a, ls, x, d, rfl, e, hS, hx, k⟩ := h
    refine ⟨_, (pss_one (ps_ret (pe_and (pe_callB call_isi (by rfl) T.b_isinstance (by decide +kernel) (pa_cons (pv 1) (pa_cons (pe_bT (n := "str") (by rfl) T.b_str (by decide +kernel)) pa_nil))) (pe_one (pe_cmpR op_in_seq (pv 1) (pv 0) (by rfl)))))), ?_⟩
    walk_at "go"
    cases d with
    | str z =>
      cases Dp.str_v hx
      refine ifT rfl ?_
      walk_at "sx"
      refine sx_inTs ls (e.t hS) ?_
      exact k
    | _ =>
      refine ifF rfl ?_
      exact k
def OptT (K : PySem.W.Frag) (B H : Hp) (o : Option (List PyData)) (Q : VK) : Prop := match o with
  | none => ∀ B' H', Nx [] B H B' H' → Q .non H'
  | some ds => ∀ B' H' v, Nx [] B H B' H' → Dp K B' v (.tuple ds) → Q v H'
def spPts (K : PySem.W.Frag) : Sp := fun vs H Q _ => ∃ (B : Hp) (a : Addr) (ls : List Str) (x : V) (d : PyData), vs = [.ref a, x] ∧ Ex B H ∧ SqT K B a (ls.map V.str) ∧ Dp K B x d ∧ OptT K B H (ptP ls d) Q
theorem ok_parts_of (T : Txt w K mg) : Has P w K mg base "parts_of" s_parts_of 2 ["letters", "value"] (spPts K) := by
  refine has_mk T.d_parts_of sc_parts_of (fun _ _ _ _ _ _ us hl => match us, hl with | [_, _], _ => rfl) (fun vs H Q E h => ?_) (fun f cdv A outer s H vs Q E hr h => ?_)
  · obtain ⟨_, _, _, _, _, rfl, _⟩ := h
    rfl
  · obtain ⟨B, a, ls, x, d, rfl, e, hS, hx, k⟩ := h
    refine ⟨_, (pss_cons (ps_if (pt_not (pt_val (pe_callH (ok_is_worded T) hr (by rfl) (pa_cons (pv 1) pa_nil))))
      (pss_one (ps_ret pe_non))
      pss_nil)
      (pss_cons (ps_set (i := 2) sc_parts_of.nd rfl (.inl rfl) (pe_ix ix_tup (pv 1) pe_int (fun _ _ => rfl)))
      (pss_cons (ps_if (pt_cmpR op_in_seq (pv 2) (pe_gR (by rfl) T.g_ALONE) (by rfl))
      (pss_one (ps_ret (pe_ifExp (pt_val (pe_callH (ok_is_tuple T) hr (by rfl) (pa_cons (pv 1) (pa_cons pe_int pa_nil)))) (pe_tup pa_nil) pe_non)))
      pss_nil)
      (pss_cons (ps_if (pt_cmpR op_eq (pv 2) (pe_gS (by rfl) T.g_LETTER) (nomark _))
      (pss_one (ps_ret (pe_ifExp (PW.pt (pw_and (pt_val (pe_callH (ok_is_tuple T) hr (by rfl) (pa_cons (pv 1) (pa_cons pe_int pa_nil)))) (pw_and1 (pt_val (pe_callH (ok_is_letter_of T) hr (by rfl) (pa_cons (pv 0) (pa_cons (pe_ix ix_tup (pv 1) pe_int (fun _ _ => rfl)) pa_nil))))))) (pe_tup pa_nil) pe_non)))
      pss_nil)
      (pss_cons (ps_if (pt_cmpR op_in_seq (pv 2) (pe_gR (by rfl) T.g_SINGLE) (by rfl))
      (pss_one (ps_ret (pe_ifExp (pt_val (pe_callH (ok_is_tuple T) hr (by rfl) (pa_cons (pv 1) (pa_cons pe_int pa_nil)))) (pe_slice sl_tup (pv 1) (po_some pe_int) po_none) pe_non)))
      pss_nil)
      (pss_one (ps_ret (pe_ifExp (PW.pt (pw_and (pt_cmpR op_in_seq (pv 2) (pe_gR (by rfl) T.g_PAIRED) (by rfl)) (pw_and1 (pt_val (pe_callH (ok_is_tuple T) hr (by rfl) (pa_cons (pv 1) (pa_cons pe_int pa_nil))))))) (pe_slice sl_tup (pv 1) (po_some pe_int) po_none) pe_non)))))))), ?_⟩
    have kn : ∀ B' H', ptP ls d = none → Nx [] B H B' H' → Q .non H' := fun B' H' z n => by
      rw [z] at k
      exact k B' H' n
    have ks : ∀ ds B' H' v, ptP ls d = some ds → Nx [] B H B' H' → Dp K B' v (.tuple ds) → Q v H' := fun ds B' H' v z n h => by
      rw [z] at k
      exact k B' H' v n h
    clear k
    walk_at "go"
    refine ⟨B, x, d, rfl, e, hx, fun B1 H1 n1 => ?_⟩
    walk_at "sx"
    by_cases hw : worded d = true
    · rw [hw]
      refine ifF rfl ?_
      obtain ⟨w, ds, rfl⟩ : ∃ w ds, d = .tuple (.str w :: ds) := by
        cases d with
        | tuple es =>
          cases es with
          | nil => cases hw
          | cons d0 r =>
            cases d0 with
            | str w => exact ⟨w, r, rfl⟩
            | _ => cases hw
        | _ => cases hw
      have hx1 := Dp.up n1.b hx
      walk_at "sx"
      refine sx_ixTd hx1 n1.h at0 fun v hv => ?_
      cases Dp.str_v hv
      walk_at "sx"
      walk_at "st"
      walk_at "sx"
      intro pa ha
      refine sx_inTs ["any", "blank", "nothing"] (ha _) ?_
      walk_at "sx"
      by_cases h1 : w ∈ (["any", "blank", "nothing"] : List Str)
      · have pt : ptP ls (.tuple (.str w :: ds)) = if ds.length = 0 then some [] else none := if_pos h1
        refine ifT (dT h1) ?_
        walk_at "sx"
        refine ⟨B1, x, _, 1, rfl, n1.h, hx1, ?_⟩
        walk_at "sx"
        rw [List.length_cons]
        by_cases hl : ds.length = 0
        · refine ifT (dT (by omega)) ?_
          walk_at "sx"
          refine sx_newT (K := K) n1.h .nil (by simp) fun p2 B2 H2 hp2 n2 d2 => ?_
          exact ks [] B2 H2 _ (by rw [pt, if_pos hl]) (n1.tr n2) d2
        · refine ifF (dF (by omega)) ?_
          walk_at "sx"
          exact kn B1 H1 (by rw [pt, if_neg hl]) n1
      · refine ifF (dF h1) ?_
        walk_at "sx"
        by_cases h2 : w = "letter"
        · have pt : ptP ls (.tuple (.str w :: ds)) = ltP ls ds := by
            show (if w ∈ (["any", "blank", "nothing"] : List Str) then _ else if w = "letter" then _ else _) = _
            rw [if_neg h1, if_pos h2]
          refine ifT (str_eqT h2) ?_
          walk_at "sx"
          refine ⟨B1, x, _, 2, rfl, n1.h, hx1, ?_⟩
          walk_at "sx"
          rw [List.length_cons]
          by_cases hl : ds.length = 1
          · obtain ⟨y, rfl⟩ := List.length_eq_one_iff.mp hl
            refine ifT (dT (by simp)) ?_
            walk_at "sx"
            refine sx_ixTd hx1 n1.h at1 fun v2 hv2 => ?_
            walk_at "sx"
            refine ⟨B1, a, ls, v2, y, rfl, n1.h, n1.b.t hS, hv2, ?_⟩
            walk_at "sx"
            by_cases h3 : ltr ls y = true
            · refine ifT h3 ?_
              walk_at "sx"
              refine sx_newT (K := K) n1.h .nil (by simp) fun p2 B2 H2 hp2 n2 d2 => ?_
              exact ks [] B2 H2 _ (by rw [pt]; exact if_pos h3) (n1.tr n2) d2
            · refine ifF (by simpa using h3) ?_
              walk_at "sx"
              exact kn B1 H1 (by rw [pt]; exact if_neg h3) n1
          · refine ifF (dF (by omega)) ?_
            refine ifF rfl ?_
            walk_at "sx"
            refine kn B1 H1 ?_ n1
            rw [pt]
            match ds, hl with
            | [], _ => rfl
            | [_], hl => exact absurd rfl hl
            | _ :: _ :: _, _ => rfl
        · refine ifF (str_eqF h2) ?_
          walk_at "sx"
          intro pb hb
          refine sx_inTs ["many", "not"] (hb _) ?_
          walk_at "sx"
          by_cases h3 : w ∈ (["many", "not"] : List Str)
          · have pt : ptP ls (.tuple (.str w :: ds)) = if ds.length = 1 then some ds else none := by
              show (if w ∈ (["any", "blank", "nothing"] : List Str) then _ else if w = "letter" then _ else if w ∈ (["many", "not"] : List Str) then _ else _) = _
              rw [if_neg h1, if_neg h2, if_pos h3]
            refine ifT (dT h3) ?_
            walk_at "sx"
            refine ⟨B1, x, _, 2, rfl, n1.h, hx1, ?_⟩
            walk_at "sx"
            rw [List.length_cons]
            by_cases hl : ds.length = 1
            · refine ifT (dT (by omega)) ?_
              walk_at "sx"
              refine sx_tail hx1 n1.h fun p2 B2 H2 hp2 n2 d2 => ?_
              exact ks ds B2 H2 _ (by rw [pt, if_pos hl]) (n1.tr n2) d2
            · refine ifF (dF (by omega)) ?_
              walk_at "sx"
              exact kn B1 H1 (by rw [pt, if_neg hl]) n1
          · refine ifF (dF h3) ?_
            walk_at "sx"
            intro pc hc
            refine sx_inTs ["or", "and", "then"] (hc _) ?_
            walk_at "sx"
            by_cases h4 : w ∈ (["or", "and", "then"] : List Str)
            · have pt : ptP ls (.tuple (.str w :: ds)) = if ds.length = 2 then some ds else none := by
                show (if w ∈ (["any", "blank", "nothing"] : List Str) then _ else if w = "letter" then _ else if w ∈ (["many", "not"] : List Str) then _ else if w ∈ (["or", "and", "then"] : List Str) then _ else _) = _
                rw [if_neg h1, if_neg h2, if_neg h3, if_pos h4]
              refine ifT (dT h4) ?_
              walk_at "sx"
              refine ⟨B1, x, _, 3, rfl, n1.h, hx1, ?_⟩
              walk_at "sx"
              rw [List.length_cons]
              by_cases hl : ds.length = 2
              · refine ifT (dT (by omega)) ?_
                walk_at "sx"
                refine sx_tail hx1 n1.h fun p2 B2 H2 hp2 n2 d2 => ?_
                exact ks ds B2 H2 _ (by rw [pt, if_pos hl]) (n1.tr n2) d2
              · refine ifF (dF (by omega)) ?_
                walk_at "sx"
                exact kn B1 H1 (by rw [pt, if_neg hl]) n1
            · have pt : ptP ls (.tuple (.str w :: ds)) = none := by
                show (if w ∈ (["any", "blank", "nothing"] : List Str) then _ else if w = "letter" then _ else if w ∈ (["many", "not"] : List Str) then _ else if w ∈ (["or", "and", "then"] : List Str) then _ else _) = _
                rw [if_neg h1, if_neg h2, if_neg h3, if_neg h4]
              refine ifF (dF h4) ?_
              refine ifF rfl ?_
              walk_at "sx"
              exact kn B1 H1 pt n1
    · have hw : worded d = false := by simpa using hw
      rw [hw]
      refine ifT rfl ?_
      walk_at "sx"
      refine kn B1 H1 ?_ n1
      cases d with
      | tuple es =>
        cases es with
        | nil => rfl
        | cons d0 r =>
          cases d0 with
          | str w => cases hw
          | _ => rfl
      | _ => rfl
end
end C
namespace C
open PySem L2 G
section
variable {P : Program} {w : World} {K : PySem.W.Frag} {mg : Str → Option Value} {base : Heap}
/-! ### the first wrong part, counted from the top -/
inductive Scan (ls : List Str) : List PyData → Nat → Option Nat → Prop
  | nil (n : Nat) : Scan ls [] n none
  | bad {d : PyData} (r : List PyData) (n : Nat) (h : ptP ls d = none) : Scan ls (d :: r) n (some n)
  | good {d : PyData} {ps r : List PyData} {n : Nat} {o : Option Nat} (h : ptP ls d = some ps) (k : Scan ls (ps ++ r) (n + 1) o) : Scan ls (d :: r) n o
theorem ptP_sz {ls : List Str} {d : PyData} {ps : List PyData} (h : ptP ls d = some ps) : szDs ps + 2 ≤ szD d := by
  unfold ptP at h
  split at h
  · rename_i w ds
    have e : szD (.tuple (.str w :: ds)) = szDs ds + 2 := by simp [szD, szDs]; omega
    rw [e]
    split at h
    · split at h
      · cases h
        simp [szDs]
      · cases h
    · split at h
      · unfold ltP at h
        split at h
        · split at h
          · cases h
            simp [szDs]
          · cases h
        · cases h
      · split at h
        · split at h
          · cases h
            omega
          · cases h
        · split at h
          · split at h
            · cases h
              omega
            · cases h
          · cases h
  · cases h
def oV (o : Option Nat) : V := match o with
  | none => .non
  | some n => .int (n : Int)
def spFwp (K : PySem.W.Frag) : Sp := fun vs H Q _ => ∃ (B : Hp) (a : Addr) (ls : List Str) (x : V) (d : PyData) (o : Option Nat), vs = [.ref a, x] ∧ Ex B H ∧ SqT K B a (ls.map V.str) ∧ Dp K B x d ∧ szD d ≤ 30000 ∧ Scan ls [d] 0 o ∧ ∀ B' H', Nx [] B H B' H' → Q (oV o) H'
theorem ok_first_wrong_part (T : Txt w K mg) : Has P w K mg base "first_wrong_part" s_first_wrong_part 3 ["letters", "value"] (spFwp K) := by
  refine has_mk T.d_first_wrong_part sc_first_wrong_part (fun _ _ _ _ _ _ us hl => match us, hl with | [_, _], _ => rfl) (fun vs H Q E h => ?_) (fun f cdv A outer s H vs Q E hr h => ?_)
  · obtain ⟨_, _, _, _, _, _, rfl, _⟩ := h
    rfl
  · obtain ⟨B, a, ls, x, d, o, rfl, e, hS, hx, hz, sc, k⟩ := h
    refine ⟨_, (pss_cons (ps_par (i := 2) (j := 3) (by rfl) sc_first_wrong_part.nd rfl rfl (by decide) rfl rfl (pa_cons (pe_lst (pa_cons (pv 1) pa_nil)) (pa_cons pe_int pa_nil)) (by rfl))
      (G.pss_cut (ps_while PassesOwn.never (pt_cmpR (op_neNilL hr.units) (pv 2) (pe_lst pa_nil) (nomark _))
      (pss_cons (ps_set (i := 4) sc_first_wrong_part.nd rfl (.inl rfl) (pe_callH (ok_parts_of T) hr (by rfl) (pa_cons (pv 0) (pa_cons (pe_bm0 PySem.F.plainAttrs_list PySem.F.slot_list_pop PySem.F.type_list_pop mt_pop (pv 2)) pa_nil))))
      (pss_cons (ps_if (pt_cmpR op_isN1 (pv 4) pe_non (nomark _))
      (pss_one (ps_ret (pv 3)))
      pss_nil)
      (pss_cons (ps_expr (pe_bm PySem.F.plainAttrs_list PySem.F.slot_list_extend PySem.F.type_list_extend mt_extendT (pv 2) (pa_cons (pe_revT (pv 4)) pa_nil)))
      (pss_one (ps_aug (i := 3) sc_first_wrong_part.nd rfl (.inl rfl) pe_int ip_add))))))
      (pss_one (ps_ret pe_non)))), ?_⟩
    walk_at "go"
    refine sx_newM e (by simp) fun L H1 hL n1 m1 => ?_
    have hL0 : H L = none := hL
    walk_at "sx"
    walk_at "st"
    refine G.sx_cut (fun σ H' => o = none ∧ ∃ B', Nx [] B H B' H') ?_ ?_
    · refine ⟨fun m σ H' => ∃ (B' : Hp) (xs : List V) (ds : List PyData) (n : Nat) (y4 : Option V), m = szDs ds ∧ σ = [some (.ref a), some x, some (.ref L), some (.int (n : Int)), y4] ∧ Nx [] B H B' H' ∧ Mu B' H' L xs ∧ DpAll K B' xs ds.reverse ∧ Scan ls ds n o ∧ szDs ds + n ≤ 30000, ?_, ?_⟩
      · exact ⟨_, B, [x], [d], 0, none, rfl, rfl, n1, m1, .cons hx .nil, sc, by simpa [szDs] using hz⟩
      · rintro m σ H2 ⟨B2, xs, ds, n, y4, rfl, rfl, n2, m2, d2, sc2, z2⟩
        have l2 := Dps.len d2
        rw [List.length_reverse] at l2
        have sl := szDs_len ds
        walk_at "sx"
        refine sx_newM n2.h (by simp) fun p3 H3 hp3 n3 m3 => ?_
        have m3L := m2.up n3
        refine sx_neLd m3L m3.sq ?_
        walk_at "sx"
        cases sc2 with
        | nil =>
          have : xs = [] := List.length_eq_zero_iff.mp l2
          subst this
          refine ifF rfl ?_
          exact ⟨rfl, B2, n2.tr n3⟩
        | bad r _ h =>
          rename_i d0
          rw [List.reverse_cons] at d2
          obtain ⟨us, v, rfl, hus, hv⟩ := Dps.last d2
          refine ifT (by simp) ?_
          refine ⟨_, fun _ _ h => h, ?_⟩
          walk_at "sx"
          refine sx_pop m3L n3.h fun H4 n4 m4 => ?_
          have n24 := (n2.tr n3).loc n4 (by simp [hL0])
          walk_at "sx"
          refine ⟨B2, a, ls, v, d0, rfl, n4.h, n2.b.t hS, hv, ?_⟩
          rw [h]
          intro B5 H5 n5
          walk_at "sx"
          walk_at "st"
          walk_at "sx"
          refine ifT (dT trivial) ?_
          walk_at "sx"
          exact k B5 H5 (n24.tr n5)
        | good h kk =>
          rename_i d0 ps r
          rw [List.reverse_cons] at d2
          obtain ⟨us, v, rfl, hus, hv⟩ := Dps.last d2
          have ps0 := ptP_sz h
          refine ifT (by simp) ?_
          refine ⟨_, fun _ _ h => h, ?_⟩
          walk_at "sx"
          refine sx_pop m3L n3.h fun H4 n4 m4 => ?_
          have n24 := (n2.tr n3).loc n4 (by simp [hL0])
          walk_at "sx"
          refine ⟨B2, a, ls, v, d0, rfl, n4.h, n2.b.t hS, hv, ?_⟩
          rw [h]
          intro B5 H5 v5 n5 d5
          obtain ⟨q5, ys, rfl, hs5, hd5⟩ := Dp.tup_v d5
          have m5 := m4.up n5
          have n25 := n24.tr n5
          walk_at "sx"
          walk_at "st"
          walk_at "sx"
          refine ifF (dF (fun z => by cases z)) ?_
          walk_at "sx"
          refine sx_revTF n5.h (n5.h.t hs5) hd5 fun p6 o6 B6 H6 hp6 n6 d6 f6 to6 => ?_
          have m6 := m5.up n6
          walk_at "sx"
          have lu := Dps.len hus
          rw [List.length_reverse] at lu
          have ly := Dps.len hd5
          have sp := szDs_len ps
          have e0 : szDs (d0 :: r) = szD d0 + szDs r := by simp [szDs]
          have sr := szDs_len r
          refine sx_extendT m6 n6.h f6 to6 (by rw [List.length_reverse]; omega) fun H7 n7 m7 => ?_
          have n27 := (n25.tr n6).loc n7 (by simp [hL0])
          refine ⟨_, rfl, (n : Int), 1, rfl, rfl, ?_⟩
          refine ⟨szDs (ps ++ r), ?_, B6, us ++ ys.reverse, ps ++ r, n + 1, _, rfl, rfl, n27, m7, ?_, kk, ?_⟩
          · rw [szDs_app, e0]
            omega
          · rw [List.reverse_append]
            exact Dps.app (Dps.up (n5.b.trans n6.b) hus) (Dps.up n6.b (Dps.rev hd5))
          · rw [szDs_app]
            omega
    · rintro σ H' ⟨rfl, B', n'⟩
      walk_at "sx"
      exact k B' H' n'
end
end C
namespace C
open PySem L2 G
section
variable {P : Program} {w : World} {K : PySem.W.Frag} {mg : Str → Option Value} {base : Heap}
/-! ### _law_same that asks itself, of like things -/
theorem pe_never {X : Cx} {e : Expr} : PE X e (fun _ _ _ => False) := ⟨fun _ _ _ _ _ _ h => h.elim⟩
def okN : Nat → PyData → Bool
  | 0, .tuple _ => false
  | n + 1, .tuple ds => decide (ds.length ≤ 1000) && ds.all (okN n)
  | _, .list _ => false
  | _, .dict _ => false
  | _, _ => true
theorem okN_flat {d : PyData} (h : ∀ ds, d ≠ .tuple ds) : ∀ n m, okN n d = okN m d := by
  intro n m
  cases d with
  | tuple ds => exact absurd rfl (h ds)
  | _ => cases n <;> cases m <;> rfl
def spSameN (K : PySem.W.Frag) (n : Nat) : Sp := fun vs H Q _ => ∃ (B : Hp) (x y : V) (d : PyData), vs = [x, y] ∧ Ex B H ∧ Dp K B x d ∧ Dp K B y d ∧ okN n d = true ∧ ∀ B' H', Nx [] B H B' H' → Q (.bl true) H'
theorem ok_same0 (T : Txt w K mg) : Has P w K mg base "_law_same" s_law_same 1 ["told", "due"] (spSameN K 0) := by
  refine has_mk T.d_law_same sc_law_same (fun _ _ _ _ _ _ us hl => match us, hl with | [_, _], _ => rfl) (fun vs H Q E h => ?_) (fun f cdv A outer s H vs Q E hr h => ?_)
  · obtain ⟨_, _, _, _, rfl, _⟩ := h
    rfl
  · obtain ⟨B, x, y, d, rfl, e, hx, hy, hf, k⟩ := h
    refine ⟨_, (pss_cons (ps_if (pt_val (pe_callB call_isi (by rfl) T.b_isinstance (by decide +kernel) (pa_cons (pv 1) (pa_cons (pe_bT (n := "tuple") (by rfl) T.b_tuple (by decide +kernel)) pa_nil))))
      (pss_cons (ps_if (PW.pt (pw_or (pt_not (pt_val (pe_callB call_isi (by rfl) T.b_isinstance (by decide +kernel) (pa_cons (pv 0) (pa_cons (pe_bT (n := "tuple") (by rfl) T.b_tuple (by decide +kernel)) pa_nil))))) (pw_or1 (pt_cmpR op_ne (pe_callB cl_len (by rfl) T.b_len (by decide +kernel) (pa_cons (pv 0) pa_nil)) (pe_callB cl_len (by rfl) T.b_len (by decide +kernel) (pa_cons (pv 1) pa_nil)) (nomark _)))))
      (pss_one (ps_ret pe_bl))
      pss_nil)
      (pss_one (ps_ret (pe_cmpR op_eq (pe_callB cl_len (by rfl) T.b_len (by decide +kernel) (pa_cons (pe_lc (own := [("at", 2)]) (g := (gName 2)) rfl sc_law_same.nd (pi_range1 (by rfl) T.b_range (pa_cons (pe_callB cl_len (by rfl) T.b_len (by decide +kernel) (pa_cons (pv 1) pa_nil)) pa_nil)) (blkOk_by (own := [("at", 2)]) (N := ["told", "due", "at"]) (sc := defScope s_law_same) (by decide +kernel)) (fun _ _ _ _ _ => pg_name (i := 2) sc_law_same.nd rfl (.inl rfl)) (fun _ _ _ _ _ => (pts_one (pt_not (pt_val pe_never)))) (fun _ _ _ _ _ => (pv 2))) pa_nil)) pe_int (nomark _)))))
      pss_nil)
      (pss_cons (ps_if (pt_cmpR op_isN1 (pv 1) pe_non (nomark _))
      (pss_one (ps_ret (pe_cmpR op_isN1 (pv 0) pe_non (nomark _))))
      pss_nil)
      (pss_cons (ps_if (PW.pt (pw_or (pt_cmpR op_isBV (pv 1) pe_bl (nomark _)) (pw_or1 (pt_cmpR op_isBV (pv 1) pe_bl (nomark _)))))
      (pss_one (ps_ret (pe_ifExp (pt_val (pv 1)) (pe_cmpR op_isBV (pv 0) pe_bl (nomark _)) (pe_cmpR op_isBV (pv 0) pe_bl (nomark _)))))
      pss_nil)
      (pss_cons (ps_if (pt_val (pe_callB call_isi (by rfl) T.b_isinstance (by decide +kernel) (pa_cons (pv 1) (pa_cons (pe_bT (n := "str") (by rfl) T.b_str (by decide +kernel)) pa_nil))))
      (pss_one (ps_ret (pe_and (pe_callB call_isi (by rfl) T.b_isinstance (by decide +kernel) (pa_cons (pv 0) (pa_cons (pe_bT (n := "str") (by rfl) T.b_str (by decide +kernel)) pa_nil))) (pe_one (pe_cmpR op_eq (pv 0) (pv 1) (nomark _))))))
      pss_nil)
      (pss_one (ps_ret (pe_and (pe_callB call_isi (by rfl) T.b_isinstance (by decide +kernel) (pa_cons (pv 0) (pa_cons (pe_bT (n := "int") (by rfl) T.b_int (by decide +kernel)) pa_nil))) (pe_and (pe_not (pe_callB call_isi (by rfl) T.b_isinstance (by decide +kernel) (pa_cons (pv 0) (pa_cons (pe_bT (n := "bool") (by rfl) T.b_bool (by decide +kernel)) pa_nil)))) (pe_one (pe_cmpR op_eq (pv 0) (pv 1) (nomark _))))))))))), ?_⟩
    walk_at "go"
    cases d with
    | none =>
      cases Dp.none_v hx
      cases Dp.none_v hy
      refine ifF rfl ?_
      walk_at "sx"
      refine ifT (by decide) ?_
      walk_at "sx"
      exact k B H (Nx.refl e)
    | bool b =>
      cases Dp.bool_v hx
      cases Dp.bool_v hy
      refine ifF rfl ?_
      walk_at "sx"
      refine ifF (by simp) ?_
      walk_at "sx"
      cases b with
      | true =>
        refine ifT (by decide) ?_
        refine ifT (by decide) ?_
        walk_at "sx"
        refine ifT (by decide) ?_
        walk_at "sx"
        exact k B H (Nx.refl e)
      | false =>
        refine ifF (by decide) ?_
        walk_at "sx"
        refine ifT (by decide) ?_
        walk_at "sx"
        refine ifF (by decide) ?_
        walk_at "sx"
        exact k B H (Nx.refl e)
    | int i =>
      have ex := Dp.int_v hx
      have ey := Dp.int_v hy
      subst ex ey
      refine ifF rfl ?_
      walk_at "sx"
      refine ifF (by simp) ?_
      walk_at "sx"
      refine ifF (by simp) ?_
      walk_at "sx"
      refine ifF (by simp) ?_
      walk_at "sx"
      refine ifF rfl ?_
      walk_at "sx"
      refine ifT rfl ?_
      walk_at "sx"
      refine ifT rfl ?_
      walk_at "sx"
      rw [int_eqT rfl]
      exact k B H (Nx.refl e)
    | str z =>
      have ex := Dp.str_v hx
      have ey := Dp.str_v hy
      subst ex ey
      refine ifF rfl ?_
      walk_at "sx"
      refine ifF (by simp) ?_
      walk_at "sx"
      refine ifF (by simp) ?_
      walk_at "sx"
      refine ifF (by simp) ?_
      walk_at "sx"
      refine ifT rfl ?_
      walk_at "sx"
      refine ifT rfl ?_
      walk_at "sx"
      rw [str_eqT rfl]
      exact k B H (Nx.refl e)
    | list ds => simp [okN] at hf
    | tuple ds => simp [okN] at hf
    | dict ds => simp [okN] at hf
theorem ok_sameS (T : Txt w K mg) (n : Nat) (ih : Has P w K mg base "_law_same" s_law_same (n + 1) ["told", "due"] (spSameN K n)) : Has P w K mg base "_law_same" s_law_same (n + 2) ["told", "due"] (spSameN K (n + 1)) := by
  refine has_mk T.d_law_same sc_law_same (fun _ _ _ _ _ _ us hl => match us, hl with | [_, _], _ => rfl) (fun vs H Q E h => ?_) (fun f cdv A outer s H vs Q E hr h => ?_)
  · obtain ⟨_, _, _, _, rfl, _⟩ := h
    rfl
  · obtain ⟨B, x, y, d, rfl, e, hx, hy, hf, k⟩ := h
    refine ⟨_, (pss_cons (ps_if (pt_val (pe_callB call_isi (by rfl) T.b_isinstance (by decide +kernel) (pa_cons (pv 1) (pa_cons (pe_bT (n := "tuple") (by rfl) T.b_tuple (by decide +kernel)) pa_nil))))
      (pss_cons (ps_if (PW.pt (pw_or (pt_not (pt_val (pe_callB call_isi (by rfl) T.b_isinstance (by decide +kernel) (pa_cons (pv 0) (pa_cons (pe_bT (n := "tuple") (by rfl) T.b_tuple (by decide +kernel)) pa_nil))))) (pw_or1 (pt_cmpR op_ne (pe_callB cl_len (by rfl) T.b_len (by decide +kernel) (pa_cons (pv 0) pa_nil)) (pe_callB cl_len (by rfl) T.b_len (by decide +kernel) (pa_cons (pv 1) pa_nil)) (nomark _)))))
      (pss_one (ps_ret pe_bl))
      pss_nil)
      (pss_one (ps_ret (pe_cmpR op_eq (pe_callB cl_len (by rfl) T.b_len (by decide +kernel) (pa_cons (pe_lc (own := [("at", 2)]) (g := (gName 2)) rfl sc_law_same.nd (pi_range1 (by rfl) T.b_range (pa_cons (pe_callB cl_len (by rfl) T.b_len (by decide +kernel) (pa_cons (pv 1) pa_nil)) pa_nil)) (blkOk_by (own := [("at", 2)]) (N := ["told", "due", "at"]) (sc := defScope s_law_same) (by decide +kernel)) (fun _ _ _ _ _ => pg_name (i := 2) sc_law_same.nd rfl (.inl rfl)) (fun _ _ _ _ _ => (pts_one (pt_not (pt_val (pe_callH ih hr (by rfl) (pa_cons (pe_ix (G.k_ixT (K := K) rfl) (pv 0) (pv 2) (fun _ _ => rfl)) (pa_cons (pe_ix (G.k_ixT (K := K) rfl) (pv 1) (pv 2) (fun _ _ => rfl)) pa_nil)) (Nat.le_refl _)))))) (fun _ _ _ _ _ => (pv 2))) pa_nil)) pe_int (nomark _)))))
      pss_nil)
      (pss_cons (ps_if (pt_cmpR op_isN1 (pv 1) pe_non (nomark _))
      (pss_one (ps_ret (pe_cmpR op_isN1 (pv 0) pe_non (nomark _))))
      pss_nil)
      (pss_cons (ps_if (PW.pt (pw_or (pt_cmpR op_isBV (pv 1) pe_bl (nomark _)) (pw_or1 (pt_cmpR op_isBV (pv 1) pe_bl (nomark _)))))
      (pss_one (ps_ret (pe_ifExp (pt_val (pv 1)) (pe_cmpR op_isBV (pv 0) pe_bl (nomark _)) (pe_cmpR op_isBV (pv 0) pe_bl (nomark _)))))
      pss_nil)
      (pss_cons (ps_if (pt_val (pe_callB call_isi (by rfl) T.b_isinstance (by decide +kernel) (pa_cons (pv 1) (pa_cons (pe_bT (n := "str") (by rfl) T.b_str (by decide +kernel)) pa_nil))))
      (pss_one (ps_ret (pe_and (pe_callB call_isi (by rfl) T.b_isinstance (by decide +kernel) (pa_cons (pv 0) (pa_cons (pe_bT (n := "str") (by rfl) T.b_str (by decide +kernel)) pa_nil))) (pe_one (pe_cmpR op_eq (pv 0) (pv 1) (nomark _))))))
      pss_nil)
      (pss_one (ps_ret (pe_and (pe_callB call_isi (by rfl) T.b_isinstance (by decide +kernel) (pa_cons (pv 0) (pa_cons (pe_bT (n := "int") (by rfl) T.b_int (by decide +kernel)) pa_nil))) (pe_and (pe_not (pe_callB call_isi (by rfl) T.b_isinstance (by decide +kernel) (pa_cons (pv 0) (pa_cons (pe_bT (n := "bool") (by rfl) T.b_bool (by decide +kernel)) pa_nil)))) (pe_one (pe_cmpR op_eq (pv 0) (pv 1) (nomark _))))))))))), ?_⟩
    walk_at "go"
    cases d with
    | none =>
      cases Dp.none_v hx
      cases Dp.none_v hy
      refine ifF rfl ?_
      walk_at "sx"
      refine ifT (by decide) ?_
      walk_at "sx"
      exact k B H (Nx.refl e)
    | bool b =>
      cases Dp.bool_v hx
      cases Dp.bool_v hy
      refine ifF rfl ?_
      walk_at "sx"
      refine ifF (by simp) ?_
      walk_at "sx"
      cases b with
      | true =>
        refine ifT (by decide) ?_
        refine ifT (by decide) ?_
        walk_at "sx"
        refine ifT (by decide) ?_
        walk_at "sx"
        exact k B H (Nx.refl e)
      | false =>
        refine ifF (by decide) ?_
        walk_at "sx"
        refine ifT (by decide) ?_
        walk_at "sx"
        refine ifF (by decide) ?_
        walk_at "sx"
        exact k B H (Nx.refl e)
    | int i =>
      have ex := Dp.int_v hx
      have ey := Dp.int_v hy
      subst ex ey
      refine ifF rfl ?_
      walk_at "sx"
      refine ifF (by simp) ?_
      walk_at "sx"
      refine ifF (by simp) ?_
      walk_at "sx"
      refine ifF (by simp) ?_
      walk_at "sx"
      refine ifF rfl ?_
      walk_at "sx"
      refine ifT rfl ?_
      walk_at "sx"
      refine ifT rfl ?_
      walk_at "sx"
      rw [int_eqT rfl]
      exact k B H (Nx.refl e)
    | str z =>
      have ex := Dp.str_v hx
      have ey := Dp.str_v hy
      subst ex ey
      refine ifF rfl ?_
      walk_at "sx"
      refine ifF (by simp) ?_
      walk_at "sx"
      refine ifF (by simp) ?_
      walk_at "sx"
      refine ifF (by simp) ?_
      walk_at "sx"
      refine ifT rfl ?_
      walk_at "sx"
      refine ifT rfl ?_
      walk_at "sx"
      rw [str_eqT rfl]
      exact k B H (Nx.refl e)
    | list ds => simp [okN] at hf
    | dict ds => simp [okN] at hf
    | tuple ds =>
      rw [okN, Bool.and_eq_true, List.all_eq_true] at hf
      obtain ⟨hl, hall⟩ := hf
      have hl : ds.length ≤ 1000 := by simpa using hl
      refine ifT rfl ?_
      walk_at "sx"
      refine ifF rfl ?_
      walk_at "sx"
      refine sx_lenTd hx e ?_
      walk_at "sx"
      refine sx_lenTd hy e ?_
      walk_at "sx"
      refine ifF (by simp) ?_
      walk_at "sx"
      refine sx_lenTd hy e ?_
      walk_at "sx"
      refine sx_lcR_by (by omega) (fun L i H' => ∃ B', Nx [] B H B' H' ∧ H L = none ∧ Mu B' H' L []) (fun L hL => ⟨B, Nx.own e hL, hL, Mu.new e hL⟩) (fun L i H1 hi p => ?_) (fun L H1 p => ?_)
      · obtain ⟨B1, n1, hL, m1⟩ := p
        walk_at "st"
        refine G.sx_gname ?_
        walk_at "st"
        refine ⟨trivial, ?_⟩
        walk_at "sx"
        have hg := List.getElem?_eq_getElem hi
        refine sx_ixTd (Dp.up n1.b hx) n1.h (atI_nat hg) fun v1 hv1 => ?_
        walk_at "sx"
        refine sx_ixTd (Dp.up n1.b hy) n1.h (atI_nat hg) fun v2 hv2 => ?_
        walk_at "sx"
        refine ⟨B1, v1, v2, _, rfl, n1.h, hv1, hv2, hall _ (List.getElem_mem hi), fun B2 H2 n2 => ?_⟩
        walk_at "sx"
        refine ifF rfl ?_
        exact ⟨B2, n1.tr n2, hL, m1.up n2⟩
      · obtain ⟨B1, n1, hL, m1⟩ := p
        walk_at "sx"
        rw [int_eqT (by simp)]
        exact k B1 H1 n1
theorem ok_sameN (T : Txt w K mg) : ∀ n, Has P w K mg base "_law_same" s_law_same (n + 1) ["told", "due"] (spSameN K n)
  | 0 => ok_same0 T
  | n + 1 => ok_sameS T n (ok_sameN T n)
theorem ok_law_same (T : Txt w K mg) : Has P w K mg base "_law_same" s_law_same 9 ["told", "due"] (spSameN K 8) := ok_sameN T 8
end
end C
namespace C
open PySem L2 G
section
variable {P : Program} {w : World} {K : PySem.W.Frag} {mg : Str → Option Value} {base : Heap}
/-- what each pair of answers is -/
structure PairOk (K : PySem.W.Frag) (B : Hp) (v : V) : Prop where
  ex : ∃ (p : Addr) (a b : V) (d : PyData), v = .ref p ∧ SqT K B p [a, b] ∧ Dp K B a d ∧ Dp K B b d ∧ okN 8 d = true
theorem PairOk.up {B B' : Hp} {v : V} (h : PairOk K B v) (e : Ex B B') : PairOk K B' v := by
  obtain ⟨p, a, b, d, rfl, h1, h2, h3, h4⟩ := h
  exact ⟨p, a, b, d, rfl, e.t h1, Dp.up e h2, Dp.up e h3, h4⟩
/-- _law_all: asked of like pairs -/
def spAll (K : PySem.W.Frag) : Sp := fun vs H Q _ => ∃ (B : Hp) (a : Addr) (xs : List V), vs = [.ref a] ∧ Ex B H ∧ SqL K H a xs ∧ xs.length ≤ 50000 ∧ (∀ x ∈ xs, PairOk K B x) ∧
  ∀ H', Q (.bl true) H'
theorem ok_law_all (T : Txt w K mg) : Has P w K mg base "_law_all" s_law_all 10 ["pairs"] (spAll K) := by
  refine has_mk T.d_law_all sc_law_all (fun _ _ _ _ _ _ us hl => match us, hl with | [_], _ => rfl) (fun vs H Q E h => ?_) (fun f cdv A outer s H vs Q E hr h => ?_)
  · obtain ⟨_, _, _, rfl, _⟩ := h
    rfl
  · obtain ⟨B, a, xs, rfl, e, hS, hz, hp, k⟩ := h
    refine ⟨_, (pss_one (ps_ret (pe_cmpR op_eq (pe_callB cl_len (by rfl) T.b_len (by decide +kernel) (pa_cons (pe_lc (own := [("told", 1), ("due", 2)]) (g := (gTup K 2 (gCons (gName 1) (gCons (gName 2) gNil)))) rfl sc_law_all.nd (pi_list (pv 0)) (blkOk_by (own := [("told", 1), ("due", 2)]) (N := ["pairs", "told", "due"]) (sc := defScope s_law_all) (by decide +kernel)) (fun _ _ _ _ _ => (pg_tup (by rfl) (pgs_cons (pg_name (i := 1) sc_law_all.nd rfl (.inl rfl)) (pgs_cons (pg_name (i := 2) sc_law_all.nd rfl (.inl rfl)) pgs_nil)))) (fun _ _ _ _ _ => (pts_one (pt_not (pt_val (pe_callH (ok_law_same T) hr (by rfl) (pa_cons (pv 1) (pa_cons (pv 2) pa_nil))))))) (fun _ _ _ _ _ => (pv 1))) pa_nil)) pe_int (nomark _)))), ?_⟩
    walk_at "go"
    walk_at "st"
    refine sx_lcL_by hS (fun L i H' => ∃ B', Nx [] B H B' H' ∧ H L = none ∧ Mu B' H' L []) (fun L hL => ⟨B, Nx.own e hL, hL, Mu.new e hL⟩) (fun L i H' _ p => by obtain ⟨B', n, _⟩ := p; exact n.sq hS (by simp)) (fun L i x H' hx p => ?_) (fun L H' p => ?_)
    · obtain ⟨B', n, hL, m⟩ := p
      obtain ⟨q, v1, v2, d, rfl, h1, h2, h3, h4⟩ := (hp x (List.mem_of_getElem? hx)).up n.b
      refine sx_gtup2 (d1 := d) (d2 := d) (.tup h1 (.cons h2 (.cons h3 .nil))) n.h fun w1 w2 e1 e2 => ?_
      walk_at "sx"
      walk_at "st"
      refine ⟨trivial, ?_⟩
      walk_at "sx"
      refine ⟨B', w1, w2, d, rfl, n.h, e1, e2, h4, fun B2 H2 n2 => ?_⟩
      walk_at "sx"
      refine ifF rfl ?_
      exact ⟨B2, n.tr n2, hL, m.up n2⟩
    · obtain ⟨B', n, hL, m⟩ := p
      walk_at "sx"
      exact k H'
end
end C
namespace C
open PySem L2 G
section
variable {P : Program} {w : World} {K : PySem.W.Frag} {mg : Str → Option Value} {base : Heap}
/-! ### _law_mixed: in a drawn order -/
theorem er_perm {α : Type} : ∀ {xs : List α} {i : Nat} {x : α}, xs[i]? = some x → (x :: xs.eraseIdx i).Perm xs
  | [], _, _, h => by simp at h
  | a :: r, 0, x, h => by
    have e : a = x := Option.some.inj h
    subst e
    exact .refl _
  | a :: r, i + 1, x, h => by
    have h : r[i]? = some x := h
    exact (List.Perm.swap a x _).trans ((er_perm h).cons a)
def spMixed (K : PySem.W.Frag) : Sp := fun vs H Q _ => ∃ (B : Hp) (d l a : Addr) (xs : List V), vs = [.ref d, .ref a] ∧ Ex B H ∧ Deal B H d l ∧ SqL K H a xs ∧ a ≠ d ∧ a ≠ l ∧ xs.length ≤ 1000 ∧
  ∀ B' H' p ys, Nx [d, l] B H B' H' → Deal B' H' d l → H p = none → Mu B' H' p ys → ys.Perm xs → Q (.ref p) H'
theorem ok_law_mixed (T : Txt w K mg) : Has P w K mg base "_law_mixed" s_law_mixed 2 ["deal", "some"] (spMixed K) := by
  refine has_mk T.d_law_mixed sc_law_mixed (fun _ _ _ _ _ _ us hl => match us, hl with | [_, _], _ => rfl) (fun vs H Q E h => ?_) (fun f cdv A outer s H vs Q E hr h => ?_)
  · obtain ⟨_, _, _, _, _, rfl, _⟩ := h
    rfl
  · obtain ⟨B, d, l, a, xs, rfl, e, hD, hS, ad, al, hz, k⟩ := h
    refine ⟨_, (pss_cons (ps_par (i := 2) (j := 3) (by rfl) sc_law_mixed.nd rfl rfl (by decide) rfl rfl (pa_cons (pe_callTy cl_list (by rfl) T.b_list (by decide +kernel) (pa_cons (pv 1) pa_nil)) (pa_cons (pe_lst pa_nil) pa_nil)) (by rfl))
      (pss_cons (ps_for PassesOwn.never rfl (pi_range1 (by rfl) T.b_range (pa_cons (pe_callB cl_len (by rfl) T.b_len (by decide +kernel) (pa_cons (pv 1) pa_nil)) pa_nil)) (pg_name (i := 4) sc_law_mixed.nd rfl (.inl rfl))
      (pss_one (ps_expr (pe_bm PySem.F.plainAttrs_list PySem.F.slot_list_append PySem.F.type_list_append mt_append (pv 3) (pa_cons (pe_bm PySem.F.plainAttrs_list PySem.F.slot_list_pop PySem.F.type_list_pop mt_popAt (pv 2) (pa_cons (pe_callH (ok_law_any T) hr (by rfl) (pa_cons (pv 0) (pa_cons (pe_callB cl_len (by rfl) T.b_len (by decide +kernel) (pa_cons (pv 2) pa_nil)) pa_nil))) pa_nil)) pa_nil)))))
      (pss_one (ps_ret (pv 3))))), ?_⟩
    walk_at "go"
    refine sx_listOf e (.inl hS) fun L H1 hL n1 m1 => ?_
    have off := hD.off hL
    have D1 := hD.up n1
    walk_at "sx"
    refine sx_newM n1.h (by simp) fun L2 H2 hL2 n2 m2 => ?_
    have off2 := D1.off hL2
    have D2 := D1.up n2
    have m12 := m1.up n2
    have hLL : L ≠ L2 := m1.ne' hL2
    have hL20 : H L2 = none := by
      cases z : H L2 with
      | none => rfl
      | some o =>
        have := n1.k _ _ z (by simp)
        rw [hL2] at this
        cases this
    have hL0 : H L = none := hL
    walk_at "sx"
    walk_at "st"
    have S2 := (n1.tr n2).sq hS (by simp)
    walk_at "sx"
    refine sx_forR_by (by omega) (fun i σ H' => ∃ (B' : Hp) (us ws : List V) (y4 : Option V), σ = [some (.ref d), some (.ref a), some (.ref L), some (.ref L2), y4] ∧ Nx [d, l] B H B' H' ∧ Deal B' H' d l ∧ Mu B' H' L us ∧ Mu B' H' L2 ws ∧ (ws ++ us).Perm xs ∧ ws.length = i) ⟨B, xs, [], _, rfl, (n1.tr n2).wk (by simp), D2, m12, m2, .refl _, rfl⟩ (fun i σ H3 hi p => ?_) (fun σ H3 p => ?_)
    · obtain ⟨B3, us, ws, y4, rfl, n3, D3, m3, m3', pm, lw⟩ := p
      have lp := pm.length_eq
      rw [List.length_append] at lp
      refine sx_gname ?_
      walk_at "st"
      walk_at "sx"
      refine ⟨B3, d, l, _, rfl, n3.h, D3, by omega, by omega, fun B4 H4 r n4 D4 r0 r1 => ?_⟩
      have n14 := n3.trans n4 fun b hb _ => D3.in b hb
      have m4 := m3.up n4 (by simp [off.1, off.2])
      have m4' := m3'.up n4 (by simp [off2.1, off2.2])
      obtain ⟨j, rfl⟩ : ∃ j : Nat, r = (j : Int) := ⟨r.toNat, by omega⟩
      have hj : j < us.length := by omega
      have hq := List.getElem?_eq_getElem hj
      walk_at "sx"
      refine sx_popAt m4 n4.h hq (by omega) fun H5 n5 m5 => ?_
      have m5' := m4'.up n5 (by simp [hLL.symm])
      walk_at "sx"
      refine sx_append m5' n5.h (by omega) fun H6 n6 m6 => ?_
      have D5 := D4.up n5 (by simp [off.1.symm, off.2.symm])
      refine ⟨B4, us.eraseIdx j, ws ++ [us[j]], _, rfl, Deal.go (Deal.go n14 D4 n5 (by simp [hL0])) D5 n6 (by simp [hL20]), D5.up n6 (by simp [off2.1.symm, off2.2.symm]), m5.up n6 (by simp [hLL]), m6, ?_, by simp [lw]⟩
      rw [List.append_assoc]
      exact ((er_perm hq).append_left ws).trans pm
    · obtain ⟨B3, us, ws, y4, rfl, n3, D3, m3, m3', pm, lw⟩ := p
      have lp := pm.length_eq
      rw [List.length_append] at lp
      have h0 : us = [] := List.length_eq_zero_iff.mp (by omega)
      subst h0
      walk_at "sx"
      rw [List.append_nil] at pm
      exact k B3 H3 L2 ws n3 D3 hL20 m3' pm
end
end C
namespace C
open PySem L2 G
section
variable {P : Program} {w : World} {K : PySem.W.Frag} {mg : Str → Option Value} {base : Heap}
/-! ### letters as drawn -/
def six : List Str := ["a", "b", "c", "x", "y", "z"]
theorem six_is : sgs "abcxyz" = six := by decide +kernel
def spAlpha (K : PySem.W.Frag) : Sp := fun vs H Q _ => ∃ (B : Hp) (d l : Addr) (m : Int), vs = [.ref d, .int m] ∧ Ex B H ∧ Deal B H d l ∧ 0 < m ∧ m ≤ 6 ∧
  ∀ B' H' p ls, Nx [d, l] B H B' H' → Deal B' H' d l → SqT K B' p (ls.map V.str) → ls ≠ [] → (∀ z ∈ ls, z ∈ six) → ls.length ≤ 6 → Q (.ref p) H'
theorem ok_law_alphabet (T : Txt w K mg) : Has P w K mg base "_law_alphabet" s_law_alphabet 3 ["deal", "most"] (spAlpha K) := by
  refine has_mk T.d_law_alphabet sc_law_alphabet (fun _ _ _ _ _ _ us hl => match us, hl with | [_, _], _ => rfl) (fun vs H Q E h => ?_) (fun f cdv A outer s H vs Q E hr h => ?_)
  · obtain ⟨_, _, _, _, rfl, _⟩ := h
    rfl
  · obtain ⟨B, d, l, m, rfl, e, hD, m0, m6, k⟩ := h
    refine ⟨_, (pss_cons (ps_set (i := 2) sc_law_alphabet.nd rfl (.inl rfl) (pe_op op_add pe_int (pe_callH (ok_law_any T) hr (by rfl) (pa_cons (pv 0) (pa_cons (pv 1) pa_nil)))))
      (pss_one (ps_ret (pe_callTy cl_tupleF (by rfl) T.b_tuple (by decide +kernel) (pa_cons (pe_callB cr_sortedS (by rfl) T.b_sorted (by decide +kernel) (pa_cons (pe_slice sl_list (pe_callH (ok_law_mixed T) hr (by rfl) (pa_cons (pv 0) (pa_cons (pe_slice sl_list (pe_callTy (cl_listS rfl) (by rfl) T.b_list (by decide +kernel) (pa_cons pe_str pa_nil)) po_none (po_some (pe_callB (cl_max rfl) (by rfl) T.b_max (by decide +kernel) (pa_cons (pv 2) (pa_cons pe_int pa_nil))))) pa_nil))) po_none (po_some (pv 2))) pa_nil)) pa_nil))))), ?_⟩
    walk_at "go"
    refine ⟨B, d, l, m, rfl, e, hD, m0, by omega, fun B1 H1 r n1 D1 r0 r1 => ?_⟩
    walk_at "sx"
    walk_at "st"
    walk_at "sx"
    refine sx_listS six_is (by decide +kernel) n1.h fun L H2 hL n2 m2 => ?_
    have off := D1.off hL
    have D2 := D1.up n2
    walk_at "sx"
    obtain ⟨n, hn⟩ : ∃ n : Nat, (if (3 : Int) > 1 + r then (3 : Int) else 1 + r) = (n : Int) := ⟨(if (3 : Int) > 1 + r then (3 : Int) else 1 + r).toNat, by split <;> omega⟩
    have hn1 : 1 ≤ n ∧ n ≤ 6 := by split at hn <;> omega
    obtain ⟨j, hj⟩ : ∃ j : Nat, 1 + r = (j : Int) := ⟨(1 + r).toNat, by omega⟩
    rw [hn, hj]
    refine sx_slL n2.h m2.sq fun p3 H3 hp3 n3 m3 => ?_
    rw [cut_to, ← List.map_take] at m3
    have off3 := D2.off hp3
    have D3 := D2.up n3
    have n13 := (Deal.go n1 D1 n2).trans (n3.wk (by simp)) fun b hb _ => D2.in b hb
    walk_at "sx"
    have l6 : six.length = 6 := rfl
    refine ⟨B1, d, l, p3, _, rfl, n3.h, D3, m3.sq, off3.1, off3.2, by rw [List.length_map, List.length_take]; omega, fun B4 H4 p4 ys n4 D4 hp4 m4 pm => ?_⟩
    have n14 := n13.trans n4 fun b hb _ => D3.in b hb
    obtain ⟨zs, hzs, pz⟩ : ∃ zs : List Str, ys = zs.map V.str ∧ zs.Perm (six.take n) := by
      refine ⟨ys.map fun v => match v with
        | .str z => z
        | _ => "", ?_, ?_⟩
      · rw [List.map_map]
        refine (List.map_id' ys).symm.trans (List.map_congr_left fun v hv => ?_)
        obtain ⟨z, _, rfl⟩ := List.mem_map.mp (pm.mem_iff.mp hv)
        rfl
      · have := pm.map fun v => match v with
          | .str z => z
          | _ => ("" : Str)
        rw [List.map_map] at this
        have e2 : ((fun v : V => match v with
          | .str z => z
          | _ => ("" : Str)) ∘ V.str) = id := rfl
        rw [e2, List.map_id] at this
        exact this
    subst hzs
    walk_at "sx"
    refine sx_slL n4.h m4.sq fun p5 H5 hp5 n5 m5 => ?_
    rw [cut_to, ← List.map_take] at m5
    have n15 := n14.trans (n5.wk (by simp)) fun b hb _ => D4.in b hb
    have D5 := D4.up n5
    walk_at "sx"
    have lz := pz.length_eq
    rw [List.length_take] at lz
    refine ⟨p5, zs.take j, rfl, m5.sq, by rw [List.length_take]; omega, fun ws p6 pw _ hp6 => ?_⟩
    have n6 : Nx [] B4 H5 B4 (upd H5 p6 (.lst (ws.map V.str))) := Nx.own n5.h hp6
    have m6 : Mu B4 (upd H5 p6 (.lst (ws.map V.str))) p6 (ws.map V.str) := Mu.new n5.h hp6
    have D6 := D5.up n6
    walk_at "sx"
    refine ⟨p6, _, rfl, m6.sq, fun p7 o7 hp7 to7 => ?_⟩
    have n7 : Nx [] B4 (upd H5 p6 (.lst (ws.map V.str))) (upd B4 p7 (.frz o7 (.tup (ws.map V.str)))) (upd (upd H5 p6 (.lst (ws.map V.str))) p7 (.frz o7 (.tup (ws.map V.str)))) := Nx.new n6.h hp7
    have lw := pw.length_eq
    rw [List.length_take] at lw
    refine k _ _ p7 ws (n15.trans ((n6.tr n7).wk (by simp)) fun b hb _ => D5.in b hb) (D6.up n7) (.inl (.inr ⟨o7, upd_same⟩)) (fun z => ?_) (fun z hz => ?_) (by omega)
    · subst z
      simp only [List.length_nil] at lw
      omega
    · exact List.mem_of_mem_take (pz.mem_iff.mp (List.mem_of_mem_take (pw.mem_iff.mp hz)))
end
end C
namespace C
open PySem L2 G
section
variable {P : Program} {w : World} {K : PySem.W.Frag} {mg : Str → Option Value} {base : Heap}
/-! ### patterns as trees -/
inductive Pat where
  | letter (s : Str)
  | alone (w : Str)
  | one (w : Str) (p : Pat)
  | two (w : Str) (p q : Pat)
def Pat.d : Pat → PyData
  | .letter s => .tuple [.str "letter", .str s]
  | .alone w => .tuple [.str w]
  | .one w p => .tuple [.str w, p.d]
  | .two w p q => .tuple [.str w, p.d, q.d]
def Pat.size : Pat → Nat
  | .letter _ => 1
  | .alone _ => 1
  | .one _ p => p.size + 1
  | .two _ p q => p.size + q.size + 1
def Pat.Ok (ls : List Str) : Pat → Prop
  | .letter s => s ∈ ls
  | .alone w => w ∈ (["any", "blank", "nothing"] : List Str)
  | .one w p => w ∈ (["many", "not"] : List Str) ∧ p.Ok ls
  | .two w p q => w ∈ (["or", "and", "then"] : List Str) ∧ p.Ok ls ∧ q.Ok ls
theorem one_w : ∀ w ∈ (["many", "not"] : List Str), w ∉ (["any", "blank", "nothing"] : List Str) ∧ w ≠ "letter" := by decide +kernel
theorem two_w : ∀ w ∈ (["or", "and", "then"] : List Str), w ∉ (["any", "blank", "nothing"] : List Str) ∧ w ≠ "letter" ∧ w ∉ (["many", "not"] : List Str) := by decide +kernel
theorem let_w : ("letter" : Str) ∉ (["any", "blank", "nothing"] : List Str) := by decide +kernel
theorem pt_cons {ls : List Str} {w : Str} {ds : List PyData} : ptP ls (.tuple (.str w :: ds)) = if w ∈ (["any", "blank", "nothing"] : List Str) then (if ds.length = 0 then some [] else none)
    else if w = "letter" then ltP ls ds
    else if w ∈ (["many", "not"] : List Str) then (if ds.length = 1 then some ds else none)
    else if w ∈ (["or", "and", "then"] : List Str) then (if ds.length = 2 then some ds else none)
    else none := rfl
theorem pt_letter {ls : List Str} {x : PyData} : ptP ls (.tuple [.str "letter", x]) = if ltr ls x = true then some [] else none := by
  rw [pt_cons, if_neg let_w, if_pos rfl]
  rfl
theorem pt_alone {ls : List Str} {w : Str} (h : w ∈ (["any", "blank", "nothing"] : List Str)) : ptP ls (.tuple [.str w]) = some [] := if_pos h
theorem pt_one {ls : List Str} {w : Str} {x : PyData} (h : w ∈ (["many", "not"] : List Str)) : ptP ls (.tuple [.str w, x]) = some [x] := by
  obtain ⟨h1, h2⟩ := one_w w h
  rw [pt_cons, if_neg h1, if_neg h2, if_pos h]
  rfl
theorem pt_two {ls : List Str} {w : Str} {x y : PyData} (h : w ∈ (["or", "and", "then"] : List Str)) : ptP ls (.tuple [.str w, x, y]) = some [x, y] := by
  obtain ⟨h1, h2, h3⟩ := two_w w h
  rw [pt_cons, if_neg h1, if_neg h2, if_neg h3, if_pos h]
  rfl
/-- a right pattern is gone over -/
theorem scan_ok {ls : List Str} {o : Option Nat} : ∀ {p : Pat}, p.Ok ls → ∀ {r : List PyData} {n : Nat}, Scan ls r (n + p.size) o → Scan ls (p.d :: r) n o
  | .letter s, h, r, n, k => .good (ps := []) (by show ptP ls (.tuple [.str "letter", .str s]) = _; rw [pt_letter]; exact if_pos (by have h : s ∈ ls := h; show decide (s ∈ ls) = true; exact decide_eq_true h)) k
  | .alone w, h, r, n, k => .good (ps := []) (pt_alone h) k
  | .one w p, h, r, n, k => .good (ps := [p.d]) (pt_one h.1) (scan_ok h.2 (by
    show Scan ls r (n + 1 + p.size) o
    have e : n + 1 + p.size = n + (Pat.one w p).size := by simp [Pat.size]; omega
    rw [e]
    exact k))
  | .two w p q, h, r, n, k => .good (ps := [p.d, q.d]) (pt_two h.1) (scan_ok h.2.1 (scan_ok h.2.2 (by
    have e : n + 1 + p.size + q.size = n + (Pat.two w p q).size := by simp [Pat.size]; omega
    rw [e]
    exact k)))
/-- ways to its places, from the top -/
def Pat.ways : Pat → List (List Nat)
  | .letter _ => [[]]
  | .alone _ => [[]]
  | .one _ p => [] :: p.ways.map (1 :: ·)
  | .two _ p q => [] :: (p.ways.map (1 :: ·) ++ q.ways.map (2 :: ·))
theorem Pat.ways_len : ∀ p : Pat, p.ways.length = p.size
  | .letter _ => rfl
  | .alone _ => rfl
  | .one _ p => by simp [Pat.ways, Pat.size, Pat.ways_len p]
  | .two _ p q => by simp [Pat.ways, Pat.size, Pat.ways_len p, Pat.ways_len q]
inductive At : Pat → List Nat → Nat → Prop
  | nil (p : Pat) : At p [] 0
  | one {w : Str} {p : Pat} {v : List Nat} {i : Nat} (h : At p v i) : At (.one w p) (1 :: v) (i + 1)
  | two1 {w : Str} {p q : Pat} {v : List Nat} {i : Nat} (h : At p v i) : At (.two w p q) (1 :: v) (i + 1)
  | two2 {w : Str} {p q : Pat} {v : List Nat} {i : Nat} (h : At q v i) : At (.two w p q) (2 :: v) (p.size + i + 1)
theorem ways_at : ∀ {p : Pat} {i : Nat} {v : List Nat}, p.ways[i]? = some v → At p v i
  | .letter _, i, v, h => by
    match i, h with
    | 0, h => cases h; exact .nil _
    | i + 1, h => simp [Pat.ways] at h
  | .alone _, i, v, h => by
    match i, h with
    | 0, h => cases h; exact .nil _
    | i + 1, h => simp [Pat.ways] at h
  | .one _ p, i, v, h => by
    match i, h with
    | 0, h => cases h; exact .nil _
    | i + 1, h =>
      have h : (p.ways.map (1 :: ·))[i]? = some v := h
      rw [List.getElem?_map] at h
      cases z : p.ways[i]? with
      | none => rw [z] at h; cases h
      | some u => rw [z] at h; cases h; exact .one (ways_at z)
  | .two _ p q, i, v, h => by
    match i, h with
    | 0, h => cases h; exact .nil _
    | i + 1, h =>
      have h : (p.ways.map (1 :: ·) ++ q.ways.map (2 :: ·))[i]? = some v := h
      rw [List.getElem?_append] at h
      split at h
      · rw [List.getElem?_map] at h
        cases z : p.ways[i]? with
        | none => rw [z] at h; cases h
        | some u => rw [z] at h; cases h; exact .two1 (ways_at z)
      · rename_i hl
        rw [List.length_map, Pat.ways_len] at h hl
        rw [List.getElem?_map] at h
        cases z : q.ways[i - p.size]? with
        | none => rw [z] at h; cases h
        | some u =>
          rw [z] at h
          cases h
          have := At.two2 (w := "") (p := p) (ways_at z)
          have e : p.size + (i - p.size) + 1 = i + 1 := by omega
          rw [← e]
          exact .two2 (ways_at z)
/-- another thing at a place -/
def Pat.ex (x : PyData) : Pat → List Nat → PyData
  | .one w p, 1 :: v => .tuple [.str w, p.ex x v]
  | .two w p q, 1 :: v => .tuple [.str w, p.ex x v, q.d]
  | .two w p q, 2 :: v => .tuple [.str w, p.d, q.ex x v]
  | _, _ => x
theorem scan_ex {ls : List Str} {x : PyData} {k : Nat} (hx : ∀ r n, Scan ls (x :: r) n (some (n + k))) {p : Pat} {v : List Nat} {i : Nat} (h : At p v i) : p.Ok ls → ∀ r n, Scan ls (p.ex x v :: r) n (some (n + (i + k))) := by
  induction h with
  | nil p =>
    intro _ r n
    have : p.ex x [] = x := by cases p <;> rfl
    rw [this, Nat.zero_add]
    exact hx r n
  | one h ih =>
    intro ok r n
    refine .good (pt_one ok.1) ?_
    have := ih ok.2 r (n + 1)
    rename_i i
    have e : n + 1 + (i + k) = n + (i + 1 + k) := by omega
    rw [e] at this
    exact this
  | two1 h ih =>
    rename_i w p q v i
    intro ok r n
    refine .good (pt_two ok.1) ?_
    have := ih ok.2.1 (q.d :: r) (n + 1)
    have e : n + 1 + (i + k) = n + (i + 1 + k) := by omega
    rw [e] at this
    exact this
  | two2 h ih =>
    rename_i w p q v i
    intro ok r n
    refine .good (pt_two ok.1) (scan_ok ok.2.1 ?_)
    have := ih ok.2.2 r (n + 1 + p.size)
    have e : n + 1 + p.size + (i + k) = n + (p.size + i + 1 + k) := by omega
    rw [e] at this
    exact this
end
end C
namespace C
open PySem L2 G
section
variable {P : Program} {w : World} {K : PySem.W.Frag} {mg : Str → Option Value} {base : Heap}
/-! ### another thing at a place -/
def wdP (w : List Nat) : PyData := .tuple (w.map fun (n : Nat) => .int (n : Int))
def Pat.kid : Pat → Nat → Option Pat
  | .one _ p, 1 => some p
  | .two _ p _, 1 => some p
  | .two _ _ q, 2 => some q
  | _, _ => none
/-- what stands on the way, and where it goes on -/
def rowsP : Pat → List Nat → List (Pat × Nat)
  | _, [] => []
  | p, n :: v => (p, n) :: match p.kid n with
    | some u => rowsP u v
    | none => []
def putP (d : PyData) (n : Nat) (x : PyData) : PyData := match d with
  | .tuple ds => .tuple (ds.take n ++ ([x] ++ ds.drop (n + 1)))
  | d => d
theorem at_cons {p : Pat} {n : Nat} {v : List Nat} {i : Nat} (h : At p (n :: v) i) : ∃ u j, p.kid n = some u ∧ At u v j ∧ ∀ x, p.ex x (n :: v) = putP p.d n (u.ex x v) := by
  cases h with
  | one h => exact ⟨_, _, rfl, h, fun _ => rfl⟩
  | two1 h => exact ⟨_, _, rfl, h, fun _ => rfl⟩
  | two2 h => exact ⟨_, _, rfl, h, fun _ => rfl⟩
theorem ex_rows {x : PyData} : ∀ {v : List Nat} {p : Pat} {i : Nat}, At p v i → p.ex x v = (rowsP p v).foldr (fun q acc => putP q.1.d q.2 acc) x
  | [], p, _, _ => by cases p <;> rfl
  | n :: v, p, i, h => by
    obtain ⟨u, j, hk, ha, he⟩ := at_cons h
    rw [he, ex_rows ha]
    simp only [rowsP, hk, List.foldr_cons]
theorem rows_len : ∀ {v : List Nat} {p : Pat} {i : Nat}, At p v i → (rowsP p v).length = v.length
  | [], _, _, _ => rfl
  | n :: v, p, i, h => by
    obtain ⟨u, j, hk, ha, _⟩ := at_cons h
    simp only [rowsP, hk, List.length_cons, rows_len ha]
theorem rows_snd : ∀ {v : List Nat} {p : Pat} {i : Nat}, At p v i → (rowsP p v).map (·.2) = v
  | [], _, _, _ => rfl
  | n :: v, p, i, h => by
    obtain ⟨u, j, hk, ha, _⟩ := at_cons h
    simp only [rowsP, hk, List.map_cons, rows_snd ha]
theorem rows_kid : ∀ {v : List Nat} {p : Pat} {i : Nat}, At p v i → ∀ q ∈ rowsP p v, ∃ u, q.1.kid q.2 = some u
  | [], _, _, _, q, hq => by cases hq
  | n :: v, p, i, h, q, hq => by
    obtain ⟨u, j, hk, ha, _⟩ := at_cons h
    simp only [rowsP, hk] at hq
    rcases List.mem_cons.mp hq with z | z
    · rw [z]
      exact ⟨u, hk⟩
    · exact rows_kid ha q z
/-- the data of a thing with a part -/
theorem kid_d {p u : Pat} {n : Nat} (h : p.kid n = some u) : ∃ ds, p.d = .tuple ds ∧ 0 < n ∧ n < ds.length ∧ ds.length ≤ 3 ∧ ds[n]? = some u.d := by
  unfold Pat.kid at h
  split at h
  all_goals first
    | (cases h; exact ⟨_, rfl, by decide, by simp, by simp, rfl⟩)
    | cases h
def spWith (K : PySem.W.Frag) : Sp := fun vs H Q _ => ∃ (B : Hp) (x y z : V) (p : Pat) (v : List Nat) (i : Nat) (d : PyData), vs = [x, y, z] ∧ Ex B H ∧ Dp K B x p.d ∧ Dp K B y (wdP v) ∧ Dp K B z d ∧ At p v i ∧ v.length ≤ 10000 ∧
  ∀ B' H' r, Nx [] B H B' H' → Dp K B' r (p.ex d v) → Q r H'
theorem ok_law_with (T : Txt w K mg) : Has P w K mg base "_law_with" s_law_with 1 ["pattern", "way", "thing"] (spWith K) := by
  refine has_mk T.d_law_with sc_law_with (fun _ _ _ _ _ _ us hl => match us, hl with | [_, _, _], _ => rfl) (fun vs H Q E h => ?_) (fun f cdv A outer s H vs Q E hr h => ?_)
  · obtain ⟨_, _, _, _, _, _, _, _, rfl, _⟩ := h
    rfl
  · obtain ⟨B, x, y, z, p, v, i0, d, rfl, e, hx, hy, hz, hp, hl, k⟩ := h
    refine ⟨_, (pss_cons (ps_set (i := 3) sc_law_with.nd rfl (.inl rfl) (pe_lst (pa_cons (pv 0) pa_nil)))
      (pss_cons (ps_for PassesOwn.never rfl (pi_tup (pv 1)) (pg_name (i := 4) sc_law_with.nd rfl (.inl rfl))
      (pss_one (ps_expr (pe_bm PySem.F.plainAttrs_list PySem.F.slot_list_append PySem.F.type_list_append mt_append (pv 3) (pa_cons (pe_ix ix_tup (pe_ix ix_list (pv 3) (pe_op op_sub pe_int pe_int) (fun _ _ => rfl)) (pv 4) (fun _ _ => rfl)) pa_nil)))))
      (pss_cons (ps_set (i := 5) sc_law_with.nd rfl (.inl rfl) (pv 2))
      (pss_cons (ps_for PassesOwn.never rfl (pi_range3 (by rfl) T.b_range (pa_cons (pe_op op_sub (pe_callB cl_len (by rfl) T.b_len (by decide +kernel) (pa_cons (pv 1) pa_nil)) pe_int) (pa_cons (pe_op op_sub pe_int pe_int) (pa_cons (pe_op op_sub pe_int pe_int) pa_nil)))) (pg_name (i := 6) sc_law_with.nd rfl (.inl rfl))
      (pss_cons (ps_par (i := 7) (j := 4) (by rfl) sc_law_with.nd rfl rfl (by decide) rfl rfl (pa_cons (pe_ix ix_list (pv 3) (pv 6) (fun _ _ => rfl)) (pa_cons (pe_ix ix_tup (pv 1) (pv 6) (fun _ _ => rfl)) pa_nil)) (by rfl))
      (pss_one (ps_set (i := 5) sc_law_with.nd rfl (.inl rfl) (pe_op op_catE (pe_op op_catE (pe_slice sl_tup (pv 7) po_none (po_some (pv 4))) (pe_tup (pa_cons (pv 5) pa_nil))) (pe_slice sl_tup (pv 7) (po_some (pe_op op_add (pv 4) pe_int)) po_none))))))
      (pss_one (ps_ret (pv 5))))))), ?_⟩
    walk_at "go"
    refine sx_newM e (by simp) fun L H1 hL n1 m1 => ?_
    have hL0 : H L = none := hL
    walk_at "sx"
    walk_at "st"
    obtain ⟨a, ws, rfl, hs, hw⟩ := Dp.tup_v hy
    have lw := Dps.len hw
    rw [List.length_map] at lw
    walk_at "sx"
    refine sx_forT_by (n1.h.t hs) (fun i σ H' => ∃ (B' : Hp) (xs : List V) (ui : Pat) (ii : Nat) (done : List (Pat × Nat)) (y4 : Option V), σ = [some x, some (.ref a), some z, some (.ref L), y4, none, none, none] ∧ Nx [] B H B' H' ∧ Mu B' H' L xs ∧ DpAll K B' xs (done.map (fun q => q.1.d) ++ [ui.d]) ∧ At ui (v.drop i) ii ∧ done ++ rowsP ui (v.drop i) = rowsP p v ∧ done.length = i) ⟨B, [x], p, i0, [], _, rfl, n1, m1, .cons hx .nil, hp, rfl, rfl⟩ (fun i σ H' _ q => ?_) (fun i w σ H2 hv q => ?_) (fun σ H2 q => ?_)
    · obtain ⟨B', xs, ui, ii, done, y4, _, n, _⟩ := q
      exact n.h.t (n.b.t hs)
    · obtain ⟨B2, xs, ui, ii, done, y4, rfl, n2, m2, d2, pi, er, ln⟩ := q
      have hi := (List.getElem?_eq_some_iff.mp hv).1
      obtain ⟨dv, hdv, hdv2⟩ := Dps.got hw hv
      have hip : i < v.length := by omega
      rw [List.getElem?_map, List.getElem?_eq_getElem hip] at hdv
      cases hdv
      cases Dp.int_v hdv2
      have hdrop : v.drop i = v[i] :: v.drop (i + 1) := List.drop_eq_getElem_cons hip
      rw [hdrop] at pi er
      obtain ⟨u, jj, hk, ha, _⟩ := at_cons pi
      obtain ⟨ds, ed, k0, k1, k3, kg⟩ := kid_d hk
      have l2 := Dps.len d2
      rw [List.length_append, List.length_map] at l2
      obtain ⟨us, vl, rfl, hus, hvl⟩ := Dps.last d2
      have hvl' := hvl
      rw [ed] at hvl'
      refine sx_gname ?_
      walk_at "st"
      walk_at "sx"
      refine sx_ixL m2.sq atI_end ?_
      walk_at "sx"
      refine sx_ixTd hvl' n2.h (atI_nat kg) fun v5 hv5 => ?_
      walk_at "sx"
      refine sx_append m2 n2.h (by simp at l2 ⊢; omega) fun H4 n4 m4 => ?_
      refine ⟨B2, _, u, jj, done ++ [(ui, v[i])], _, rfl, n2.loc n4 (by simp [hL0]), m4, ?_, ha, ?_, by simp [ln]⟩
      · rw [List.map_append]
        exact Dps.app d2 (.cons hv5 .nil)
      · rw [List.append_assoc, ← er]
        simp only [rowsP, hk]
        rfl
    · obtain ⟨B2, xs, ui, ii, done, y4, rfl, n2, m2, d2, pi, er, ln⟩ := q
      rw [lw, List.drop_length] at er
      rw [show rowsP ui [] = [] from rfl, List.append_nil] at er
      subst er
      have lr := rows_len hp
      have ldx := Dps.len d2
      rw [List.length_append, List.length_map, lr] at ldx
      have hy2 := Dp.up n2.b hy
      walk_at "sx"
      walk_at "st"
      walk_at "sx"
      refine sx_lenTd hy2 n2.h ?_
      walk_at "sx"
      rw [List.length_map]
      refine sx_forD_by (by omega) (by omega) (fun k σ H' => ∃ (B' : Hp) (vp : V) (y4 y6 y7 : Option V), σ = [some x, some (.ref a), some z, some (.ref L), y4, some vp, y6, y7] ∧ Nx [] B H B' H' ∧ Mu B' H' L xs ∧ Ex B2 B' ∧ Dp K B' vp (((rowsP p v).reverse.take k).foldl (fun acc q => putP q.1.d q.2 acc) d)) ⟨B2, z, _, _, _, rfl, n2, m2, Ex.refl _, Dp.up n2.b hz⟩ (fun k σ H4 hk q => ?_) (fun σ H4 q => ?_)
      · obtain ⟨B4, vp, y4, y6, y7, rfl, n4, m4, e4, d4⟩ := q
        obtain ⟨s, hs1⟩ : ∃ s : Nat, (v.length : Int) - 1 - (k : Int) = (s : Int) := ⟨((v.length : Int) - 1 - (k : Int)).toNat, by omega⟩
        have hs2 : s + k + 1 = v.length := by omega
        have hsr : s < (rowsP p v).length := by omega
        obtain ⟨q, hq⟩ : ∃ q, q = (rowsP p v)[s] := ⟨_, rfl⟩
        have hmem : q ∈ rowsP p v := by rw [hq]; exact List.getElem_mem hsr
        obtain ⟨u, hkid⟩ := rows_kid hp q hmem
        obtain ⟨ds, ed, k0, k1, k3, kg⟩ := kid_d hkid
        rw [hs1]
        refine sx_gname ?_
        walk_at "st"
        walk_at "sx"
        have hsn : v[s]? = some q.2 := by
          have h1 := congrArg (fun l => l[s]?) (rows_snd hp)
          simp only [List.getElem?_map, List.getElem?_eq_getElem hsr] at h1
          rw [hq]
          exact h1.symm
        obtain ⟨vx, hvx, dvx⟩ := Dps.get d2 (i := s) (d := q.1.d) (by
          rw [List.getElem?_append_left (by rw [List.length_map]; exact hsr), List.getElem?_map, List.getElem?_eq_getElem hsr, ← hq]
          rfl)
        refine sx_ixL m4.sq (atI_nat hvx) ?_
        walk_at "sx"
        refine sx_ixTd (Dp.up e4 hy2) n4.h (atI_nat (j := s) (by rw [List.getElem?_map, hsn]; rfl)) fun v2 hv2 => ?_
        cases Dp.int_v hv2
        walk_at "sx"
        walk_at "st"
        walk_at "sx"
        have dvx4 := Dp.up e4 dvx
        rw [ed] at dvx4
        refine sx_slTo dvx4 n4.h (by omega) fun p5 B5 H5 hp5 n5 d5 => ?_
        walk_at "sx"
        refine sx_newT n5.h (.cons (Dp.up n5.b d4) .nil) (by simp) fun p6 B6 H6 hp6 n6 d6 => ?_
        walk_at "sx"
        refine sx_catE n6.h (Dp.up n6.b d5) d6 (by simp; omega) fun v7 B7 H7 n7 d7 => ?_
        walk_at "sx"
        have n47 := (n5.tr n6).tr n7
        rw [show (q.2 : Int) + 1 = ((q.2 + 1 : Nat) : Int) by omega]
        refine sx_slFrom (Dp.up n47.b dvx4) n7.h (by omega) (by omega) fun p8 B8 H8 hp8 n8 d8 => ?_
        refine sx_catE n8.h (Dp.up n8.b d7) d8 (by simp; omega) fun v9 B9 H9 n9 d9 => ?_
        walk_at "sx"
        walk_at "st"
        have n49 := (n47.tr n8).tr n9
        refine ⟨B9, v9, _, _, _, rfl, n4.tr n49, m4.up n49, e4.trans n49.b, ?_⟩
        have ht : (rowsP p v).reverse.take (k + 1) = (rowsP p v).reverse.take k ++ [q] := by
          rw [List.take_add_one, List.getElem?_reverse (by omega), show (rowsP p v).length - 1 - k = s by omega, List.getElem?_eq_getElem hsr, ← hq]
          rfl
        rw [ht, List.foldl_append, List.foldl_cons, List.foldl_nil]
        rw [List.append_assoc] at d9
        show Dp K B9 v9 (putP q.1.d q.2 _)
        rw [ed]
        exact d9
      · obtain ⟨B4, vp, y4, y6, y7, rfl, n4, m4, e4, d4⟩ := q
        walk_at "sx"
        refine k B4 H4 vp n4 ?_
        rw [ex_rows hp, ← List.foldl_reverse]
        rw [show ((v.length : Int) - 1 - (0 - 1)).toNat = (rowsP p v).reverse.length by rw [List.length_reverse, lr]; omega, List.take_length] at d4
        exact d4
end
end C
namespace C
open PySem L2 G
section
variable {P : Program} {w : World} {K : PySem.W.Frag} {mg : Str → Option Value} {base : Heap}
/-! ### all ways, from the top -/
def kd : Pat → List (Nat × Pat)
  | .one _ p => [(1, p)]
  | .two _ p q => [(2, q), (1, p)]
  | _ => []
def tdP (q : List Nat × Pat) : PyData := .tuple [wdP q.1, q.2.d]
def waysOf (qs : List (List Nat × Pat)) : List (List Nat) := qs.flatMap fun q => q.2.ways.map (q.1 ++ ·)
theorem kd_d {ls : List Str} {p : Pat} (h : p.Ok ls) : ∃ w ds, p.d = .tuple (.str w :: ds) ∧ ((w = "letter" ∧ ∃ s, p = .letter s) ∨ (w ≠ "letter" ∧ (kd p).length = ds.length ∧ ds.length ≤ 2 ∧ ∀ k, k < ds.length → ∃ c, (kd p)[k]? = some (ds.length - k, c) ∧ (PyData.str w :: ds)[ds.length - k]? = some c.d)) := by
  cases p with
  | letter s => exact ⟨_, _, rfl, .inl ⟨rfl, s, rfl⟩⟩
  | alone w =>
    refine ⟨_, _, rfl, .inr ⟨?_, rfl, by simp, fun k hk => by simp at hk⟩⟩
    intro z
    subst z
    exact let_w h
  | one w p =>
    refine ⟨_, _, rfl, .inr ⟨(one_w w h.1).2, rfl, by simp, fun k hk => ?_⟩⟩
    match k, hk with
    | 0, _ => exact ⟨p, rfl, rfl⟩
    | k + 1, hk => simp at hk
  | two w p q =>
    refine ⟨_, _, rfl, .inr ⟨(two_w w h.1).2.1, rfl, by simp, fun k hk => ?_⟩⟩
    match k, hk with
    | 0, _ => exact ⟨q, rfl, rfl⟩
    | 1, _ => exact ⟨p, rfl, rfl⟩
    | k + 2, hk => simp at hk; omega
theorem ways_step (p : Pat) (w : List Nat) (r : List (List Nat × Pat)) : waysOf ((w, p) :: r) = w :: waysOf (((kd p).map fun c => (w ++ [c.1], c.2)).reverse ++ r) := by
  cases p <;> simp [waysOf, Pat.ways, kd, Function.comp_def]
theorem kd_size (p : Pat) : ((kd p).map fun c => c.2.size).sum + 1 = p.size := by
  cases p <;> simp [kd, Pat.size] <;> omega
theorem kd_ok {ls : List Str} {p : Pat} (h : p.Ok ls) : ∀ c ∈ kd p, c.2.Ok ls := by
  cases p with
  | letter s => intro c hc; cases hc
  | alone w => intro c hc; cases hc
  | one w p => intro c hc; simp [kd] at hc; subst hc; exact h.2
  | two w p q =>
    intro c hc
    simp [kd] at hc
    rcases hc with rfl | rfl
    · exact h.2.2
    · exact h.2.1
theorem Pat.size_pos (p : Pat) : 0 < p.size := by cases p <;> simp [Pat.size]
theorem mem_sum {x : Nat} : ∀ (l : List Nat), x ∈ l → x ≤ l.sum
  | [], h => by cases h
  | a :: l, h => by
    rw [List.sum_cons]
    rcases List.mem_cons.mp h with z | z
    · omega
    · have := mem_sum l z
      omega
def spWays (K : PySem.W.Frag) : Sp := fun vs H Q _ => ∃ (B : Hp) (x : V) (p : Pat) (ls : List Str), vs = [x] ∧ Ex B H ∧ Dp K B x p.d ∧ p.Ok ls ∧ p.size ≤ 1000 ∧
  ∀ B' H' a xs, Nx [] B H B' H' → H a = none → Mu B' H' a xs → DpAll K B' xs (p.ways.map wdP) → Q (.ref a) H'
theorem ok_law_ways (T : Txt w K mg) : Has P w K mg base "_law_ways" s_law_ways 1 ["pattern"] (spWays K) := by
  refine has_mk T.d_law_ways sc_law_ways (fun _ _ _ _ _ _ us hl => match us, hl with | [_], _ => rfl) (fun vs H Q E h => ?_) (fun f cdv A outer s H vs Q E hr h => ?_)
  · obtain ⟨_, _, _, _, rfl, _⟩ := h
    rfl
  · obtain ⟨B, x, p, ls, rfl, e, hx, ok, hz, k⟩ := h
    refine ⟨_, (pss_cons (ps_par (i := 1) (j := 2) (by rfl) sc_law_ways.nd rfl rfl (by decide) rfl rfl (pa_cons (pe_lst (pa_cons (pe_tup (pa_cons (pe_tup pa_nil) (pa_cons (pv 0) pa_nil))) pa_nil)) (pa_cons (pe_lst pa_nil) pa_nil)) (by rfl))
      (G.pss_cut (ps_while PassesOwn.never (pt_cmpR op_gt (pe_callB cl_len (by rfl) T.b_len (by decide +kernel) (pa_cons (pv 1) pa_nil)) pe_int (nomark _))
      (pss_cons (ps_asg (pe_bm0 PySem.F.plainAttrs_list PySem.F.slot_list_pop PySem.F.type_list_pop mt_pop (pv 1)) (pg_tup (by rfl) (pgs_cons (pg_name (i := 3) sc_law_ways.nd rfl (.inr rfl)) (pgs_cons (pg_name (i := 4) sc_law_ways.nd rfl (.inr rfl)) pgs_nil))))
      (pss_cons (ps_expr (pe_bm PySem.F.plainAttrs_list PySem.F.slot_list_append PySem.F.type_list_append mt_append (pv 2) (pa_cons (pv 3) pa_nil)))
      (pss_one (ps_if (pt_cmpR op_ne (pe_ix ix_tup (pv 4) pe_int (fun _ _ => rfl)) pe_str (nomark _))
      (pss_one (ps_set (i := 1) sc_law_ways.nd rfl (.inl rfl) (pe_op op_cat (pv 1) (pe_lc (own := [("at", 5)]) (g := (gName 5)) rfl sc_law_ways.nd (pi_range3 (by rfl) T.b_range (pa_cons (pe_op op_sub (pe_callB cl_len (by rfl) T.b_len (by decide +kernel) (pa_cons (pv 4) pa_nil)) pe_int) (pa_cons pe_int (pa_cons (pe_op op_sub pe_int pe_int) pa_nil)))) (blkOk_by (own := [("at", 5)]) (N := ["pattern", "todo", "found", "way", "here", "at"]) (sc := defScope s_law_ways) (by decide +kernel)) (fun _ _ _ _ _ => pg_name (i := 5) sc_law_ways.nd rfl (.inl rfl)) (fun _ _ _ _ _ => pts_nil) (fun _ _ _ _ _ => (pe_tup (pa_cons (pe_op (G.k_catE (K := K) rfl) (pv 3) (pe_tup (pa_cons (pv 5) pa_nil))) (pa_cons (pe_ix (G.k_ixT (K := K) rfl) (pv 4) (pv 5) (fun _ _ => rfl)) pa_nil))))))))
      pss_nil)))))
      (pss_one (ps_ret (pv 2))))), ?_⟩
    walk_at "go"
    refine sx_newT (K := K) e .nil (by simp) fun p2 B2 H2 hp2 n2 d2 => ?_
    walk_at "sx"
    refine sx_newT n2.h (.cons d2 (.cons (Dp.up n2.b hx) .nil)) (by simp) fun p3 B3 H3 hp3 n3 d3 => ?_
    have d3 : Dp K B3 (.ref p3) (tdP ([], p)) := d3
    walk_at "sx"
    have n13 := n2.tr n3
    refine sx_newM n3.h (by simp) fun Lt H4 ht n4 mt => ?_
    have ht0 : H Lt = none := n13.ex.free ht
    walk_at "sx"
    refine sx_newM n4.h (by simp) fun Lf H5 hf n5 mf => ?_
    have hf0 : H Lf = none := (n13.tr n4).ex.free hf
    walk_at "sx"
    walk_at "st"
    refine G.sx_cut (fun σ H' => ∃ (B' : Hp) (xs : List V) (y1 y3 y4 y5 : Option V), σ = [some x, y1, some (.ref Lf), y3, y4, y5] ∧ Nx [] B H B' H' ∧ Mu B' H' Lf xs ∧ DpAll K B' xs (p.ways.map wdP)) ?_ ?_
    · refine ⟨fun m σ H' => ∃ (B' : Hp) (L : Addr) (xs ys : List V) (fs : List (List Nat)) (qs : List (List Nat × Pat)) (y3 y4 y5 : Option V), m = (qs.map fun q => q.2.size).sum ∧ σ = [some x, some (.ref L), some (.ref Lf), y3, y4, y5] ∧ Nx [] B H B' H' ∧ H L = none ∧ L ≠ Lf ∧ Mu B' H' Lf xs ∧ Mu B' H' L ys ∧ DpAll K B' xs (fs.map wdP) ∧ DpAll K B' ys (qs.reverse.map tdP) ∧ fs ++ waysOf qs = p.ways ∧ (∀ q ∈ qs, q.2.Ok ls ∧ q.1.length + q.2.size ≤ 1000) ∧ fs.length + (qs.map fun q => q.2.size).sum ≤ 1000, ?_, ?_⟩
      · refine ⟨_, B3, Lt, [], [.ref p3], [], [([], p)], none, none, none, rfl, rfl, (n13.tr n4).tr n5, ht0, mt.ne' hf, mf, mt.up n5, .nil, .cons d3 .nil, by simp [waysOf], fun q hq => ?_, by simpa using hz⟩
        rw [List.mem_singleton] at hq
        subst hq
        exact ⟨ok, by simpa using hz⟩
      · rintro m σ H6 ⟨B6, L, xs, ys, fs, qs, y3, y4, y5, rfl, rfl, n6, hL0, hne, m6f, m6t, d6f, d6t, cov, oks, z6⟩
        have l6t := Dps.len d6t
        rw [List.length_map, List.length_reverse] at l6t
        have l6f := Dps.len d6f
        rw [List.length_map] at l6f
        walk_at "sx"
        cases qs with
        | nil =>
          have : ys = [] := List.length_eq_zero_iff.mp l6t
          subst this
          refine ifF (dF (by simp)) ?_
          have cov : fs = p.ways := by simpa [waysOf] using cov
          exact ⟨B6, xs, _, _, _, _, rfl, n6, m6f, by rw [← cov]; exact d6f⟩
        | cons q r =>
          obtain ⟨w0, u⟩ := q
          have su := u.size_pos
          simp only [List.map_cons, List.sum_cons] at z6
          refine ifT (dT (by rw [l6t]; simp)) ?_
          refine ⟨_, fun _ _ h => h, ?_⟩
          rw [List.reverse_cons, List.map_append, List.map_singleton] at d6t
          obtain ⟨us, v, rfl, hus, hv⟩ := Dps.last d6t
          walk_at "sx"
          refine sx_pop m6t n6.h fun H7 n7 m7t => ?_
          have m7f := m6f.up n7 (by simp [hne.symm])
          have n67 := n6.loc n7 (by simp [hL0])
          walk_at "sx"
          refine sx_gtup2 hv n7.h fun v1 v2 hv1 hv2 => ?_
          walk_at "st"
          walk_at "sx"
          refine sx_append m7f n7.h (by omega) fun H8 n8 m8f => ?_
          have m8t := m7t.up n8 (by simp [hne])
          have n68 := n67.loc n8 (by simp [hf0])
          have d8f : DpAll K B6 (xs ++ [v1]) ((fs ++ [w0]).map wdP) := by
            rw [List.map_append]
            exact Dps.app d6f (.cons hv1 .nil)
          obtain ⟨oku, wl⟩ := oks (w0, u) (by simp)
          have oku : u.Ok ls := oku
          have wl : w0.length + u.size ≤ 1000 := wl
          obtain ⟨wd, ds, ed, hcase⟩ := kd_d oku
          have hv2' := hv2
          rw [ed] at hv2'
          walk_at "sx"
          refine sx_ixTd hv2' n8.h at0 fun v3 hv3 => ?_
          cases Dp.str_v hv3
          walk_at "sx"
          rcases hcase with ⟨hl, s, rfl⟩ | ⟨hl, hlen, hl2, hk⟩
          · refine ifF (by rw [str_eqT hl]; rfl) ?_
            refine ⟨(r.map fun q => q.2.size).sum, ?_, B6, L, _, us, fs ++ [w0], r, _, _, _, rfl, rfl, n68, hL0, hne, m8f, m8t, d8f, hus, ?_, fun q hq => oks q (by simp [hq]), ?_⟩
            · simp only [List.map_cons, List.sum_cons]
              omega
            · rw [ways_step] at cov
              rw [List.append_assoc]
              exact cov
            · rw [List.length_append, List.length_singleton]
              omega
          · refine ifT (by rw [str_eqF hl]; rfl) ?_
            walk_at "sx"
            refine sx_lenTd hv2' n8.h ?_
            walk_at "sx"
            rw [List.length_cons]
            refine sx_lcD_by (by omega) (by omega) (fun C k H' => H8 C = none ∧ ∃ (B' : Hp) (zs : List V), Nx [] B6 H8 B' H' ∧ Mu B' H' C zs ∧ DpAll K B' zs (((kd u).take k).map fun c => tdP (w0 ++ [c.1], c.2))) (fun C hC => ⟨hC, B6, [], Nx.own n8.h hC, Mu.new n8.h hC, .nil⟩) (fun C k H9 hk9 p => ?_) (fun C H9 p => ?_)
            · obtain ⟨hC, B9, zs, n9, m9, d9⟩ := p
              have hkn : k < ds.length := by omega
              obtain ⟨c, hc1, hc2⟩ := hk k hkn
              have l9 := Dps.len d9
              rw [List.length_map, List.length_take] at l9
              have e1 : ((ds.length + 1 : Nat) : Int) - 1 - (k : Int) = ((ds.length - k : Nat) : Int) := by omega
              rw [e1]
              walk_at "st"
              refine G.sx_gname ?_
              walk_at "st"
              refine ⟨trivial, ?_⟩
              walk_at "sx"
              refine iteT ?_
              walk_at "sx"
              refine sx_newT (K := K) n9.h (.cons (.int _) .nil) (by simp) fun p10 B10 H10 hp10 n10 d10 => ?_
              walk_at "sx"
              refine sx_catE n10.h (Dp.up (n9.b.trans n10.b) hv1) d10 (by simp; omega) fun v11 B11 H11 n11 d11 => ?_
              walk_at "sx"
              refine sx_ixTd (Dp.up (n9.b.trans (n10.b.trans n11.b)) hv2') n11.h (atI_nat hc2) fun v12 hv12 => ?_
              walk_at "sx"
              refine sx_newT n11.h (.cons d11 (.cons hv12 .nil)) (by simp) fun p13 B13 H13 hp13 n13 d13 => ?_
              have n913 := (n10.tr n11).tr n13
              have m13 := m9.up n913
              have htk : (kd u).take (k + 1) = (kd u).take k ++ [(ds.length - k, c)] := by rw [List.take_add_one, hc1]; rfl
              refine ⟨_, m13.h, sz_lt (by omega), hC, B13, zs ++ [.ref p13], (n9.tr n913).loc (m13.put n13.h) (by simp [hC]), m13.set, ?_⟩
              rw [htk, List.map_append]
              refine Dps.app (Dps.up n913.b d9) (.cons ?_ .nil)
              have hc : tdP (w0 ++ [ds.length - k], c) = .tuple [.tuple ((w0.map fun (n : Nat) => PyData.int (n : Int)) ++ [.int ((ds.length - k : Nat) : Int)]), c.d] := by
                show PyData.tuple [.tuple ((w0 ++ [ds.length - k]).map fun (n : Nat) => PyData.int (n : Int)), c.d] = _
                rw [List.map_append]
                rfl
              show Dp K B13 (.ref p13) (tdP (w0 ++ [ds.length - k], c))
              rw [hc]
              exact d13
            · obtain ⟨hC, B9, zs, n9, m9, d9⟩ := p
              rw [show (((ds.length + 1 : Nat) : Int) - 1 - 0).toNat = (kd u).length by omega, List.take_length] at d9
              have l9 := Dps.len d9
              rw [List.length_map] at l9
              have lus := Dps.len hus
              rw [List.length_map, List.length_reverse] at lus
              have lr : r.length ≤ (r.map fun q => q.2.size).sum := by
                have : ∀ l : List (List Nat × Pat), l.length ≤ (l.map fun q => q.2.size).sum := by
                  intro l
                  induction l with
                  | nil => simp
                  | cons q l ih =>
                    have := q.2.size_pos
                    simp only [List.length_cons, List.map_cons, List.sum_cons]
                    omega
                exact this r
              have m9t := m8t.up n9
              have m9f := m8f.up n9
              walk_at "sx"
              refine sx_cat n9.h m9t.h m9.h (by omega) fun L2 H10 hL2 n10 m10 => ?_
              have n610 := (n68.tr n9).tr n10
              have hL20 : H L2 = none := (n68.tr n9).h.free hL2 |> fun h => by
                cases z : H L2 with
                | none => rfl
                | some o =>
                  have := (n68.tr n9).k _ _ z (by simp)
                  rw [hL2] at this
                  cases this
              walk_at "sx"
              walk_at "st"
              have ks := kd_size u
              have sm : ((((kd u).map fun c => (w0 ++ [c.1], c.2)).reverse ++ r).map fun q : List Nat × Pat => q.2.size).sum + 1 = u.size + (r.map fun q => q.2.size).sum := by
                rw [List.map_append, List.sum_append, List.map_reverse, List.sum_reverse, List.map_map]
                have : ((fun q : List Nat × Pat => q.2.size) ∘ fun c : Nat × Pat => (w0 ++ [c.1], c.2)) = fun c => c.2.size := rfl
                rw [this]
                omega
              refine ⟨((((kd u).map fun c => (w0 ++ [c.1], c.2)).reverse ++ r).map fun q : List Nat × Pat => q.2.size).sum, ?_, B9, L2, _, us ++ zs, fs ++ [w0], ((kd u).map fun c => (w0 ++ [c.1], c.2)).reverse ++ r, _, _, _, rfl, rfl, n610, hL20, (m9f.ne hL2), m9f.up n10, m10, Dps.up n9.b d8f, ?_, ?_, ?_, ?_⟩
              · simp only [List.map_cons, List.sum_cons]
                omega
              · rw [List.reverse_append, List.reverse_reverse, List.map_append, List.map_map]
                exact Dps.app (Dps.up n9.b hus) d9
              · rw [ways_step] at cov
                rw [List.append_assoc]
                exact cov
              · intro q hq
                rcases List.mem_append.mp hq with z | z
                · obtain ⟨c, hc, rfl⟩ := List.mem_map.mp (List.mem_reverse.mp z)
                  refine ⟨kd_ok oku c hc, ?_⟩
                  have : c.2.size ≤ ((kd u).map fun c => c.2.size).sum := mem_sum _ (List.mem_map_of_mem hc)
                  simp
                  omega
                · exact oks q (by simp [z])
              · rw [List.length_append, List.length_singleton]
                omega
    · rintro σ H' ⟨B', xs, y1, y3, y4, y5, rfl, n, m, d⟩
      walk_at "sx"
      exact k B' H' Lf xs n hf0 m d
end
end C
namespace C
open PySem L2 G
section
variable {P : Program} {w : World} {K : PySem.W.Frag} {mg : Str → Option Value} {base : Heap}
/-! ### patterns as drawn -/
/-- a leaf as drawn -/
def leafs (ls : List Str) : List Pat := (List.replicate 3 (ls.map Pat.letter)).flatten ++ [.alone "any", .alone "blank", .alone "nothing"]
theorem leafs_ok {ls : List Str} : ∀ p ∈ leafs ls, p.Ok ls ∧ p.size = 1 := by
  intro p hp
  unfold leafs at hp
  rcases List.mem_append.mp hp with z | z
  · obtain ⟨l, hl, hm⟩ := List.mem_flatten.mp z
    rw [List.mem_replicate] at hl
    rw [hl.2] at hm
    obtain ⟨s, hs, rfl⟩ := List.mem_map.mp hm
    exact ⟨hs, rfl⟩
  · simp only [List.mem_cons, List.not_mem_nil, or_false] at z
    rcases z with rfl | rfl | rfl
    · exact ⟨by show ("any" : Str) ∈ _; decide +kernel, rfl⟩
    · exact ⟨by show ("blank" : Str) ∈ _; decide +kernel, rfl⟩
    · exact ⟨by show ("nothing" : Str) ∈ _; decide +kernel, rfl⟩
def four : List Str := ["or", "and", "then", "then"]
theorem four_ok : ∀ w ∈ four, w ∈ (["or", "and", "then"] : List Str) := by decide +kernel
theorem leafs_len (ls : List Str) : (leafs ls).length = 3 * ls.length + 3 := by
  simp [leafs]
  omega
def spGrown (K : PySem.W.Frag) : Sp := fun vs H Q _ => ∃ (B : Hp) (d l a : Addr) (ls : List Str) (n : Nat), vs = [.ref d, .ref a, .int (n : Int)] ∧ Ex B H ∧ Deal B H d l ∧ SqT K B a (ls.map V.str) ∧ ls.length ≤ 6 ∧ 0 < n ∧ n ≤ 100 ∧
  ∀ B' H' v p, Nx [d, l] B H B' H' → Deal B' H' d l → Dp K B' v (Pat.d p) → p.Ok ls → p.size ≤ 2 * n → Q v H'
theorem ifTr {A B : Prop} (h : A) : if True then A else B := by rw [if_pos trivial]; exact h
def sz (ps : List Pat) : Nat := (ps.map Pat.size).sum
theorem sz_app (a b : List Pat) : sz (a ++ b) = sz a + sz b := by simp [sz]
theorem sz1 (p : Pat) : sz [p] = p.size := by simp [sz]
theorem ok_law_grown (T : Txt w K mg) : Has P w K mg base "_law_grown" s_law_grown 3 ["deal", "letters", "size"] (spGrown K) := by
  refine has_mk T.d_law_grown sc_law_grown (fun _ _ _ _ _ _ us hl => match us, hl with | [_, _, _], _ => rfl) (fun vs H Q E h => ?_) (fun f cdv A outer s H vs Q E hr h => ?_)
  · obtain ⟨_, _, _, _, _, _, rfl, _⟩ := h
    rfl
  · obtain ⟨B, d, l, a, ls, n, rfl, e, hD, hS, h6, n0, n1, k⟩ := h
    refine ⟨_, (pss_cons (ps_set (i := 3) sc_law_grown.nd rfl (.inl rfl) (pe_lst pa_nil))
      (pss_cons (ps_for PassesOwn.never rfl (pi_range1 (by rfl) T.b_range (pa_cons (pv 2) pa_nil)) (pg_name (i := 4) sc_law_grown.nd rfl (.inl rfl))
      (pss_cons (ps_set (i := 5) sc_law_grown.nd rfl (.inl rfl) (pe_callH (ok_law_any T) hr (by rfl) (pa_cons (pv 0) (pa_cons pe_int pa_nil))))
      (pss_one (ps_if (PW.pt (pw_or (pt_cmpR op_lt (pv 5) pe_int (nomark _)) (pw_or1 (pt_cmpR op_eq (pe_callB cl_len (by rfl) T.b_len (by decide +kernel) (pa_cons (pv 3) pa_nil)) pe_int (nomark _)))))
      (pss_one (ps_expr (pe_bm PySem.F.plainAttrs_list PySem.F.slot_list_append PySem.F.type_list_append mt_append (pv 3) (pa_cons (pe_callH (ok_law_of T) hr (by rfl) (pa_cons (pv 0) (pa_cons (pe_op op_cat (pe_op op_rep (pe_lc (own := [("letter", 6)]) (g := (gName 6)) rfl sc_law_grown.nd (pi_tup (pv 1)) (blkOk_by (own := [("letter", 6)]) (N := ["deal", "letters", "size", "heap", "turn", "sort", "letter", "one", "other"]) (sc := defScope s_law_grown) (by decide +kernel)) (fun _ _ _ _ _ => pg_name (i := 6) sc_law_grown.nd rfl (.inl rfl)) (fun _ _ _ _ _ => pts_nil) (fun _ _ _ _ _ => (pe_tup (pa_cons pe_str (pa_cons (pv 6) pa_nil))))) pe_int) (pe_lst (pa_cons (pe_tup (pa_cons pe_str pa_nil)) (pa_cons (pe_tup (pa_cons pe_str pa_nil)) (pa_cons (pe_tup (pa_cons pe_str pa_nil)) pa_nil))))) pa_nil))) pa_nil))))
      (pss_one (ps_if (pt_cmpR op_lt (pv 5) pe_int (nomark _))
      (pss_one (ps_expr (pe_bm PySem.F.plainAttrs_list PySem.F.slot_list_append PySem.F.type_list_append mt_append (pv 3) (pa_cons (pe_tup (pa_cons (pe_ifExp (pt_cmpR op_lt (pv 5) pe_int (nomark _)) pe_str pe_str) (pa_cons (pe_bm0 PySem.F.plainAttrs_list PySem.F.slot_list_pop PySem.F.type_list_pop mt_pop (pv 3)) pa_nil))) pa_nil))))
      (pss_one (ps_if (pt_cmpR op_gt (pe_callB cl_len (by rfl) T.b_len (by decide +kernel) (pa_cons (pv 3) pa_nil)) pe_int (nomark _))
      (pss_cons (ps_par (i := 7) (j := 8) (by rfl) sc_law_grown.nd rfl rfl (by decide) rfl rfl (pa_cons (pe_bm0 PySem.F.plainAttrs_list PySem.F.slot_list_pop PySem.F.type_list_pop mt_pop (pv 3)) (pa_cons (pe_bm0 PySem.F.plainAttrs_list PySem.F.slot_list_pop PySem.F.type_list_pop mt_pop (pv 3)) pa_nil)) (by rfl))
      (pss_one (ps_expr (pe_bm PySem.F.plainAttrs_list PySem.F.slot_list_append PySem.F.type_list_append mt_append (pv 3) (pa_cons (pe_tup (pa_cons (pe_callH (ok_law_of T) hr (by rfl) (pa_cons (pv 0) (pa_cons (pe_lst (pa_cons pe_str (pa_cons pe_str (pa_cons pe_str (pa_cons pe_str pa_nil))))) pa_nil))) (pa_cons (pv 8) (pa_cons (pv 7) pa_nil)))) pa_nil)))))
      pss_nil))))))))
      (G.pss_cut (ps_while PassesOwn.never (pt_cmpR op_gt (pe_callB cl_len (by rfl) T.b_len (by decide +kernel) (pa_cons (pv 3) pa_nil)) pe_int (nomark _))
      (pss_cons (ps_par (i := 7) (j := 8) (by rfl) sc_law_grown.nd rfl rfl (by decide) rfl rfl (pa_cons (pe_bm0 PySem.F.plainAttrs_list PySem.F.slot_list_pop PySem.F.type_list_pop mt_pop (pv 3)) (pa_cons (pe_bm0 PySem.F.plainAttrs_list PySem.F.slot_list_pop PySem.F.type_list_pop mt_pop (pv 3)) pa_nil)) (by rfl))
      (pss_one (ps_expr (pe_bm PySem.F.plainAttrs_list PySem.F.slot_list_append PySem.F.type_list_append mt_append (pv 3) (pa_cons (pe_tup (pa_cons (pe_callH (ok_law_of T) hr (by rfl) (pa_cons (pv 0) (pa_cons (pe_lst (pa_cons pe_str (pa_cons pe_str (pa_cons pe_str (pa_cons pe_str pa_nil))))) pa_nil))) (pa_cons (pv 8) (pa_cons (pv 7) pa_nil)))) pa_nil))))))
      (pss_one (ps_ret (pe_ix ix_list (pv 3) pe_int (fun _ _ => rfl))))))), ?_⟩
    walk_at "go"
    refine sx_newM e (by simp) fun L H1 hL n1' m1 => ?_
    have off := hD.off hL
    have D1 := hD.up n1'
    have hL0 : H L = none := hL
    walk_at "sx"
    walk_at "st"
    walk_at "sx"
    refine sx_forR_by (by omega) (fun i σ H' => ∃ (B' : Hp) (xs : List V) (ps : List Pat) (y4 y5 y6 y7 y8 : Option V), σ = [some (.ref d), some (.ref a), some (.int (n : Int)), some (.ref L), y4, y5, y6, y7, y8] ∧ Nx [d, l] B H B' H' ∧ Deal B' H' d l ∧ Mu B' H' L xs ∧ DpAll K B' xs (ps.map Pat.d) ∧ (∀ p ∈ ps, p.Ok ls) ∧ sz ps + ps.length ≤ 2 * i ∧ (0 < i → ps ≠ [])) ?_ (fun i σ H2 hi p => ?_) (fun σ H2 p => ?_)
    · exact ⟨B, [], [], _, _, _, _, _, rfl, n1'.wk (by simp), D1, m1, .nil, by simp, by simp [sz], by simp⟩
    · obtain ⟨B2, xs, ps, y4, y5, y6, y7, y8, rfl, n2, D2, m2, d2, ok2, z2, hne⟩ := p
      have l2 := Dps.len d2
      rw [List.length_map] at l2
      refine sx_gname ?_
      walk_at "st"
      walk_at "sx"
      refine ⟨B2, d, l, _, rfl, n2.h, D2, by omega, by omega, fun B3 H3 r n3 D3 r0 r1 => ?_⟩
      have n23 := n2.trans n3 fun b hb _ => D2.in b hb
      have m3 := m2.up n3 (by simp [off.1, off.2])
      have d3 := Dps.up n3.b d2
      walk_at "sx"
      walk_at "st"
      walk_at "sx"
      by_cases h5 : r < 5
      · refine ifT (dT h5) ?_
        refine ifTr ?_
        walk_at "sx"
        refine sx_lcT_by (n3.h.t (n23.b.t hS)) (fun C j H' => H3 C = none ∧ ∃ (B' : Hp) (us : List V), Nx [] B3 H3 B' H' ∧ Mu B' H' C us ∧ DpAll K B' us ((ls.take j).map fun s => (Pat.letter s).d)) (fun C hC => ⟨hC, B3, [], Nx.own n3.h hC, Mu.new n3.h hC, .nil⟩) (fun C j H' _ p => by obtain ⟨_, B', us, n, _⟩ := p; exact n.h.t (n.b.t (n23.b.t hS))) (fun C j x H4 hj p => ?_) (fun C H4 p => ?_)
        · obtain ⟨hC, B4, us, n4, m4, d4⟩ := p
          obtain ⟨s, hs, rfl⟩ : ∃ s, ls[j]? = some s ∧ x = V.str s := by
            rw [List.getElem?_map] at hj
            cases z : ls[j]? with
            | none => rw [z] at hj; cases hj
            | some s => rw [z] at hj; exact ⟨s, rfl, (Option.some.inj hj).symm⟩
          have hj' := (List.getElem?_eq_some_iff.mp hs).1
          have l4 := Dps.len d4
          rw [List.length_map, List.length_take] at l4
          refine sx_gname ?_
          walk_at "st"
          refine ⟨trivial, ?_⟩
          walk_at "sx"
          refine iteT ?_
          walk_at "sx"
          refine sx_newT (K := K) n4.h (.cons (.str _) (.cons (.str s) .nil)) (by simp) fun p5 B5 H5 hp5 n5 d5 => ?_
          refine sx_lcEnd (P := fun H' => H3 C = none ∧ ∃ (B' : Hp) (us : List V), Nx [] B3 H3 B' H' ∧ Mu B' H' C us ∧ DpAll K B' us ((ls.take (j + 1)).map fun s => (Pat.letter s).d)) (m4.up n5) n5.h (by omega) fun H6 n6 m6 => ⟨hC, B5, us ++ [.ref p5], (n4.tr n5).loc n6 (by simp [hC]), m6, ?_⟩
          rw [List.take_add_one, hs, List.map_append]
          exact Dps.app (Dps.up n5.b d4) (.cons d5 .nil)
        obtain ⟨hC, B4, us, n4, m4, d4⟩ := p
        rw [List.length_map, List.take_length] at d4
        have l4 := Dps.len d4
        rw [List.length_map] at l4
        have m34 := m3.up n4
        have offC := D3.off hC
        walk_at "sx"
        refine ⟨C, 3, us, rfl, rfl, m4.h, by decide, by decide, sz_of (by show us.length * 3 ≤ 100000; omega), fun C2 hC2 => ?_⟩
        have n5 : Nx [] B4 H4 B4 (upd H4 C2 (.lst (List.replicate (3 : Int).toNat us).flatten)) := Nx.own n4.h hC2
        have m5 : Mu B4 (upd H4 C2 (.lst (List.replicate (3 : Int).toNat us).flatten)) C2 (List.replicate (3 : Int).toNat us).flatten := Mu.new n4.h hC2
        have d5 : DpAll K B4 (List.replicate (3 : Int).toNat us).flatten ((List.replicate 3 (ls.map Pat.letter)).flatten.map Pat.d) := by
          have : (List.replicate 3 (ls.map Pat.letter)).flatten.map Pat.d = (ls.map fun s => (Pat.letter s).d) ++ ((ls.map fun s => (Pat.letter s).d) ++ ((ls.map fun s => (Pat.letter s).d) ++ [])) := by simp [List.replicate, Function.comp_def]
          rw [this]
          exact Dps.app d4 (Dps.app d4 (Dps.app d4 .nil))
        walk_at "sx"
        refine sx_newT (K := K) n5.h (.cons (.str _) .nil) (by simp) fun p6 B6 H6 hp6 n6 d6 => ?_
        walk_at "sx"
        refine sx_newT (K := K) n6.h (.cons (.str _) .nil) (by simp) fun p7 B7 H7 hp7 n7 d7 => ?_
        walk_at "sx"
        refine sx_newT (K := K) n7.h (.cons (.str _) .nil) (by simp) fun p8 B8 H8 hp8 n8 d8 => ?_
        walk_at "sx"
        refine sx_newM n8.h (by simp) fun C9 H9 hC9 n9 m9 => ?_
        have n59 := ((n6.tr n7).tr n8).tr n9
        have m59 := m5.up n59
        walk_at "sx"
        have d59 : DpAll K B8 ((List.replicate (3 : Int).toNat us).flatten ++ [.ref p6, .ref p7, .ref p8]) ((leafs ls).map Pat.d) := by
          unfold leafs
          rw [List.map_append]
          exact Dps.app (Dps.up n59.b d5) (.cons (Dp.up (n7.b.trans n8.b) d6) (.cons (Dp.up n8.b d7) (.cons d8 .nil)))
        have l59 := Dps.len d59
        rw [List.length_map, leafs_len] at l59
        refine sx_cat n9.h m59.h m9.h (by rw [List.length_append] at l59; omega) fun C10 H10 hC10 n10 m10 => ?_
        have n310 := ((n4.tr n5).tr n59).tr n10
        have D10 := D3.up n310
        have offC10 := (D3.up ((n4.tr n5).tr n59)).off hC10
        walk_at "sx"
        refine ⟨B8, d, l, C10, _, rfl, n10.h, D10, m10.sq, offC10.1, offC10.2, by omega, by omega, fun B11 H11 q v n11 D11 hv => ?_⟩
        obtain ⟨dv, hdv, dpv⟩ := Dps.got d59 hv
        rw [List.getElem?_map] at hdv
        obtain ⟨lf, hlf, rfl⟩ : ∃ lf, (leafs ls)[q]? = some lf ∧ lf.d = dv := by
          cases z : (leafs ls)[q]? with
          | none => rw [z] at hdv; cases hdv
          | some lf => rw [z] at hdv; exact ⟨lf, rfl, Option.some.inj hdv⟩
        obtain ⟨okl, szl⟩ := leafs_ok lf (List.mem_of_getElem? hlf)
        have n311 := Deal.via n310 D10 n11
        have m11 := (m3.up n310).up n11 (by simp [off.1, off.2])
        walk_at "sx"
        refine sx_append m11 n11.h (by omega) fun H12 n12 m12 => ?_
        have n212 := Deal.go (n23.trans n311 fun b hb _ => D3.in b hb) D11 n12 (by simp [hL0])
        refine ⟨B11, _, ps ++ [lf], _, _, _, _, _, rfl, n212, D11.up n12 (by simp [off.1.symm, off.2.symm]), m12, ?_, ?_, ?_, by simp⟩
        · rw [List.map_append]
          exact Dps.app (Dps.up (n310.b.trans n11.b) d3) (.cons (Dp.up n11.b dpv) .nil)
        · intro p hp
          rcases List.mem_append.mp hp with z | z
          · exact ok2 p z
          · rw [List.mem_singleton.mp z]
            exact okl
        · rw [sz_app, sz1, szl, List.length_append, List.length_singleton]
          omega
      · refine ifF (dF h5) ?_
        walk_at "sx"
        by_cases h0 : xs.length = 0
        · refine ifT (int_eqT (by omega)) ?_
          walk_at "sx"
          refine sx_lcT_by (n3.h.t (n23.b.t hS)) (fun C j H' => H3 C = none ∧ ∃ (B' : Hp) (us : List V), Nx [] B3 H3 B' H' ∧ Mu B' H' C us ∧ DpAll K B' us ((ls.take j).map fun s => (Pat.letter s).d)) (fun C hC => ⟨hC, B3, [], Nx.own n3.h hC, Mu.new n3.h hC, .nil⟩) (fun C j H' _ p => by obtain ⟨_, B', us, n, _⟩ := p; exact n.h.t (n.b.t (n23.b.t hS))) (fun C j x H4 hj p => ?_) (fun C H4 p => ?_)
          · obtain ⟨hC, B4, us, n4, m4, d4⟩ := p
            obtain ⟨s, hs, rfl⟩ : ∃ s, ls[j]? = some s ∧ x = V.str s := by
              rw [List.getElem?_map] at hj
              cases z : ls[j]? with
              | none => rw [z] at hj; cases hj
              | some s => rw [z] at hj; exact ⟨s, rfl, (Option.some.inj hj).symm⟩
            have hj' := (List.getElem?_eq_some_iff.mp hs).1
            have l4 := Dps.len d4
            rw [List.length_map, List.length_take] at l4
            refine sx_gname ?_
            walk_at "st"
            refine ⟨trivial, ?_⟩
            walk_at "sx"
            refine iteT ?_
            walk_at "sx"
            refine sx_newT (K := K) n4.h (.cons (.str _) (.cons (.str s) .nil)) (by simp) fun p5 B5 H5 hp5 n5 d5 => ?_
            refine sx_lcEnd (P := fun H' => H3 C = none ∧ ∃ (B' : Hp) (us : List V), Nx [] B3 H3 B' H' ∧ Mu B' H' C us ∧ DpAll K B' us ((ls.take (j + 1)).map fun s => (Pat.letter s).d)) (m4.up n5) n5.h (by omega) fun H6 n6 m6 => ⟨hC, B5, us ++ [.ref p5], (n4.tr n5).loc n6 (by simp [hC]), m6, ?_⟩
            rw [List.take_add_one, hs, List.map_append]
            exact Dps.app (Dps.up n5.b d4) (.cons d5 .nil)
          obtain ⟨hC, B4, us, n4, m4, d4⟩ := p
          rw [List.length_map, List.take_length] at d4
          have l4 := Dps.len d4
          rw [List.length_map] at l4
          have m34 := m3.up n4
          have offC := D3.off hC
          walk_at "sx"
          refine ⟨C, 3, us, rfl, rfl, m4.h, by decide, by decide, sz_of (by show us.length * 3 ≤ 100000; omega), fun C2 hC2 => ?_⟩
          have n5 : Nx [] B4 H4 B4 (upd H4 C2 (.lst (List.replicate (3 : Int).toNat us).flatten)) := Nx.own n4.h hC2
          have m5 : Mu B4 (upd H4 C2 (.lst (List.replicate (3 : Int).toNat us).flatten)) C2 (List.replicate (3 : Int).toNat us).flatten := Mu.new n4.h hC2
          have d5 : DpAll K B4 (List.replicate (3 : Int).toNat us).flatten ((List.replicate 3 (ls.map Pat.letter)).flatten.map Pat.d) := by
            have : (List.replicate 3 (ls.map Pat.letter)).flatten.map Pat.d = (ls.map fun s => (Pat.letter s).d) ++ ((ls.map fun s => (Pat.letter s).d) ++ ((ls.map fun s => (Pat.letter s).d) ++ [])) := by simp [List.replicate, Function.comp_def]
            rw [this]
            exact Dps.app d4 (Dps.app d4 (Dps.app d4 .nil))
          walk_at "sx"
          refine sx_newT (K := K) n5.h (.cons (.str _) .nil) (by simp) fun p6 B6 H6 hp6 n6 d6 => ?_
          walk_at "sx"
          refine sx_newT (K := K) n6.h (.cons (.str _) .nil) (by simp) fun p7 B7 H7 hp7 n7 d7 => ?_
          walk_at "sx"
          refine sx_newT (K := K) n7.h (.cons (.str _) .nil) (by simp) fun p8 B8 H8 hp8 n8 d8 => ?_
          walk_at "sx"
          refine sx_newM n8.h (by simp) fun C9 H9 hC9 n9 m9 => ?_
          have n59 := ((n6.tr n7).tr n8).tr n9
          have m59 := m5.up n59
          walk_at "sx"
          have d59 : DpAll K B8 ((List.replicate (3 : Int).toNat us).flatten ++ [.ref p6, .ref p7, .ref p8]) ((leafs ls).map Pat.d) := by
            unfold leafs
            rw [List.map_append]
            exact Dps.app (Dps.up n59.b d5) (.cons (Dp.up (n7.b.trans n8.b) d6) (.cons (Dp.up n8.b d7) (.cons d8 .nil)))
          have l59 := Dps.len d59
          rw [List.length_map, leafs_len] at l59
          refine sx_cat n9.h m59.h m9.h (by rw [List.length_append] at l59; omega) fun C10 H10 hC10 n10 m10 => ?_
          have n310 := ((n4.tr n5).tr n59).tr n10
          have D10 := D3.up n310
          have offC10 := (D3.up ((n4.tr n5).tr n59)).off hC10
          walk_at "sx"
          refine ⟨B8, d, l, C10, _, rfl, n10.h, D10, m10.sq, offC10.1, offC10.2, by omega, by omega, fun B11 H11 q v n11 D11 hv => ?_⟩
          obtain ⟨dv, hdv, dpv⟩ := Dps.got d59 hv
          rw [List.getElem?_map] at hdv
          obtain ⟨lf, hlf, rfl⟩ : ∃ lf, (leafs ls)[q]? = some lf ∧ lf.d = dv := by
            cases z : (leafs ls)[q]? with
            | none => rw [z] at hdv; cases hdv
            | some lf => rw [z] at hdv; exact ⟨lf, rfl, Option.some.inj hdv⟩
          obtain ⟨okl, szl⟩ := leafs_ok lf (List.mem_of_getElem? hlf)
          have n311 := Deal.via n310 D10 n11
          have m11 := (m3.up n310).up n11 (by simp [off.1, off.2])
          walk_at "sx"
          refine sx_append m11 n11.h (by omega) fun H12 n12 m12 => ?_
          have n212 := Deal.go (n23.trans n311 fun b hb _ => D3.in b hb) D11 n12 (by simp [hL0])
          refine ⟨B11, _, ps ++ [lf], _, _, _, _, _, rfl, n212, D11.up n12 (by simp [off.1.symm, off.2.symm]), m12, ?_, ?_, ?_, by simp⟩
          · rw [List.map_append]
            exact Dps.app (Dps.up (n310.b.trans n11.b) d3) (.cons (Dp.up n11.b dpv) .nil)
          · intro p hp
            rcases List.mem_append.mp hp with z | z
            · exact ok2 p z
            · rw [List.mem_singleton.mp z]
              exact okl
          · rw [sz_app, sz1, szl, List.length_append, List.length_singleton]
            omega
        · refine ifF (int_eqF (by omega)) ?_
          walk_at "sx"
          obtain ⟨qs, q1, rfl⟩ := snoc_of (xs := ps) (fun z => h0 (by rw [l2, z]; rfl))
          rw [List.map_append, List.map_singleton] at d3
          obtain ⟨us, v1, rfl, dus, dp2⟩ := Dps.last d3
          have okq : ∀ p ∈ qs, p.Ok ls := fun p hp => ok2 p (by simp [hp])
          have ok1 : q1.Ok ls := ok2 q1 (by simp)
          rw [sz_app, sz1, List.length_append, List.length_singleton] at z2
          have l3 := Dps.len dus
          rw [List.length_map] at l3
          by_cases h8 : r < 8
          · refine ifT (dT h8) ?_
            walk_at "sx"
            by_cases h7 : r < 7
            · refine ifT (dT h7) ?_
              walk_at "sx"
              refine sx_pop m3 n3.h fun H5 n5 m5 => ?_
              walk_at "sx"
              have D5 := D3.up n5 (by simp [off.1.symm, off.2.symm])
              refine sx_newT (K := K) n5.h (.cons (.str _) (.cons dp2 .nil)) (by simp) fun p6 B6 H6 hp6 n6 d6 => ?_
              have D6 := D5.up n6
              walk_at "sx"
              refine sx_append (m5.up n6) n6.h (by omega) fun H7 n7 m7 => ?_
              have n27 := Deal.go ((Deal.go n23 D3 n5 (by simp [hL0])).trans (n6.wk (by simp)) fun b hb _ => D5.in b hb) D6 n7 (by simp [hL0])
              refine ⟨B6, _, qs ++ [.one "many" q1], _, _, _, _, _, rfl, n27, D6.up n7 (by simp [off.1.symm, off.2.symm]), m7, ?_, ?_, ?_, by simp⟩
              · rw [List.map_append]
                exact Dps.app (Dps.up n6.b dus) (.cons d6 .nil)
              · intro p hp
                rcases List.mem_append.mp hp with z | z
                · exact okq p z
                · rw [List.mem_singleton.mp z]
                  exact ⟨by decide +kernel, ok1⟩
              · rw [sz_app, sz1, List.length_append, List.length_singleton]
                simp only [Pat.size]
                omega
            · refine ifF (dF h7) ?_
              walk_at "sx"
              refine sx_pop m3 n3.h fun H5 n5 m5 => ?_
              walk_at "sx"
              have D5 := D3.up n5 (by simp [off.1.symm, off.2.symm])
              refine sx_newT (K := K) n5.h (.cons (.str _) (.cons dp2 .nil)) (by simp) fun p6 B6 H6 hp6 n6 d6 => ?_
              have D6 := D5.up n6
              walk_at "sx"
              refine sx_append (m5.up n6) n6.h (by omega) fun H7 n7 m7 => ?_
              have n27 := Deal.go ((Deal.go n23 D3 n5 (by simp [hL0])).trans (n6.wk (by simp)) fun b hb _ => D5.in b hb) D6 n7 (by simp [hL0])
              refine ⟨B6, _, qs ++ [.one "not" q1], _, _, _, _, _, rfl, n27, D6.up n7 (by simp [off.1.symm, off.2.symm]), m7, ?_, ?_, ?_, by simp⟩
              · rw [List.map_append]
                exact Dps.app (Dps.up n6.b dus) (.cons d6 .nil)
              · intro p hp
                rcases List.mem_append.mp hp with z | z
                · exact okq p z
                · rw [List.mem_singleton.mp z]
                  exact ⟨by decide +kernel, ok1⟩
              · rw [sz_app, sz1, List.length_append, List.length_singleton]
                simp only [Pat.size]
                omega
          · refine ifF (dF h8) ?_
            walk_at "sx"
            by_cases h1 : 1 < (us ++ [v1]).length
            · refine ifT (dT (by omega)) ?_
              have hq : qs ≠ [] := fun z => by
                subst z
                rw [List.length_append, List.length_singleton, l3] at h1
                simp at h1
              obtain ⟨rs, q2, rfl⟩ := snoc_of hq
              rw [List.map_append, List.map_singleton] at dus
              obtain ⟨ws, v2, rfl, dws, dp1⟩ := Dps.last dus
              have okr : ∀ p ∈ rs, p.Ok ls := fun p hp => okq p (by simp [hp])
              have ok3 : q2.Ok ls := okq q2 (by simp)
              rw [sz_app, sz1, List.length_append, List.length_singleton] at z2
              have l4 := Dps.len dws
              rw [List.length_map] at l4
              walk_at "sx"
              refine sx_pop m3 n3.h fun H4 n4 m4 => ?_
              walk_at "sx"
              refine sx_pop m4 n4.h fun H5 n5 m5 => ?_
              have D4 := D3.up n4 (by simp [off.1.symm, off.2.symm])
              have D5 := D4.up n5 (by simp [off.1.symm, off.2.symm])
              have n25 := Deal.go (Deal.go n23 D3 n4 (by simp [hL0])) D4 n5 (by simp [hL0])
              walk_at "sx"
              walk_at "st"
              walk_at "sx"
              refine sx_newM n5.h (by simp) fun Cw H6 hCw n6 m6 => ?_
              have D6 := D5.up n6
              have offw := D5.off hCw
              walk_at "sx"
              refine ⟨B3, d, l, Cw, _, rfl, n6.h, D6, m6.sq, offw.1, offw.2, by simp, by simp, fun B7 H7 q v n7 D7 hv => ?_⟩
              obtain ⟨wd, hwd, rfl⟩ : ∃ wd, wd ∈ four ∧ v = V.str wd := by
                have : v ∈ four.map V.str := List.mem_of_getElem? hv
                obtain ⟨wd, h1, h2⟩ := List.mem_map.mp this
                exact ⟨wd, h1, h2.symm⟩
              have m7 := (m5.up n6).up n7 (by simp [off.1, off.2])
              have n57 := Deal.via n6 D6 n7
              walk_at "sx"
              refine sx_newT (K := K) n7.h (.cons (.str wd) (.cons (Dp.up n7.b dp1) (.cons (Dp.up n7.b dp2) .nil))) (by simp) fun p8 B8 H8 hp8 n8 d8 => ?_
              have D8 := D7.up n8
              walk_at "sx"
              refine sx_append (m7.up n8) n8.h (by omega) fun H9 n9 m9 => ?_
              have n29 := Deal.go ((n25.trans n57 fun b hb _ => D5.in b hb).trans (n8.wk (by simp)) fun b hb _ => D7.in b hb) D8 n9 (by simp [hL0])
              refine ⟨B8, _, rs ++ [.two wd q2 q1], _, _, _, _, _, rfl, n29, D8.up n9 (by simp [off.1.symm, off.2.symm]), m9, ?_, ?_, ?_, by simp⟩
              · rw [List.map_append]
                exact Dps.app (Dps.up (n7.b.trans n8.b) dws) (.cons d8 .nil)
              · intro p hp
                rcases List.mem_append.mp hp with z | z
                · exact okr p z
                · rw [List.mem_singleton.mp z]
                  exact ⟨four_ok wd hwd, ok3, ok1⟩
              · rw [sz_app, sz1, List.length_append, List.length_singleton]
                simp only [Pat.size]
                omega
            · refine ifF (dF (by omega)) ?_
              walk_at "sx"
              refine ⟨B3, us ++ [v1], qs ++ [q1], _, _, _, _, _, rfl, n23, D3, m3, ?_, ok2, ?_, by simp⟩
              · rw [List.map_append, List.map_singleton]
                exact Dps.app dus (.cons dp2 .nil)
              · rw [sz_app, sz1, List.length_append, List.length_singleton]
                omega
    · obtain ⟨B2, xs, ps, y4, y5, y6, y7, y8, rfl, n2, D2, m2, d2, ok2, z2, hne⟩ := p
      have hne := hne n0
      refine G.sx_cut (fun σ H' => ∃ (B' : Hp) (v : V) (p : Pat) (y4 y5 y6 y7 y8 : Option V), σ = [some (.ref d), some (.ref a), some (.int (n : Int)), some (.ref L), y4, y5, y6, y7, y8] ∧ Nx [d, l] B H B' H' ∧ Deal B' H' d l ∧ Mu B' H' L [v] ∧ Dp K B' v p.d ∧ p.Ok ls ∧ p.size ≤ 2 * n) ?_ ?_
      · refine ⟨fun m σ H' => ∃ (B' : Hp) (xs : List V) (ps : List Pat) (y4 y5 y6 y7 y8 : Option V), m = ps.length ∧ σ = [some (.ref d), some (.ref a), some (.int (n : Int)), some (.ref L), y4, y5, y6, y7, y8] ∧ Nx [d, l] B H B' H' ∧ Deal B' H' d l ∧ Mu B' H' L xs ∧ DpAll K B' xs (ps.map Pat.d) ∧ (∀ p ∈ ps, p.Ok ls) ∧ sz ps + ps.length ≤ 2 * n ∧ ps ≠ [], ?_, ?_⟩
        · exact ⟨_, B2, xs, ps, y4, y5, y6, y7, y8, rfl, rfl, n2, D2, m2, d2, ok2, z2, hne⟩
        · rintro m σ H3 ⟨B3, xs, ps, y4, y5, y6, y7, y8, rfl, rfl, n3, D3, m3, d3, ok2, z2, hne⟩
          have l2 := Dps.len d3
          rw [List.length_map] at l2
          obtain ⟨qs, q1, rfl⟩ := snoc_of hne
          rw [List.map_append, List.map_singleton] at d3
          obtain ⟨us, v1, rfl, dus, dp2⟩ := Dps.last d3
          have okq : ∀ p ∈ qs, p.Ok ls := fun p hp => ok2 p (by simp [hp])
          have ok1 : q1.Ok ls := ok2 q1 (by simp)
          rw [sz_app, sz1, List.length_append, List.length_singleton] at z2
          have l3 := Dps.len dus
          rw [List.length_map] at l3
          walk_at "sx"
          by_cases h1 : 1 < (us ++ [v1]).length
          · refine ifT (dT (by omega)) ?_
            refine ⟨_, fun _ _ h => h, ?_⟩
            have hq : qs ≠ [] := fun z => by
              subst z
              rw [List.length_append, List.length_singleton, l3] at h1
              simp at h1
            obtain ⟨rs, q2, rfl⟩ := snoc_of hq
            rw [List.map_append, List.map_singleton] at dus
            obtain ⟨ws, v2, rfl, dws, dp1⟩ := Dps.last dus
            have okr : ∀ p ∈ rs, p.Ok ls := fun p hp => okq p (by simp [hp])
            have ok3 : q2.Ok ls := okq q2 (by simp)
            rw [sz_app, sz1, List.length_append, List.length_singleton] at z2
            have l4 := Dps.len dws
            rw [List.length_map] at l4
            walk_at "sx"
            refine sx_pop m3 n3.h fun H4 n4 m4 => ?_
            walk_at "sx"
            refine sx_pop m4 n4.h fun H5 n5 m5 => ?_
            have D4 := D3.up n4 (by simp [off.1.symm, off.2.symm])
            have D5 := D4.up n5 (by simp [off.1.symm, off.2.symm])
            have n25 := Deal.go (Deal.go n3 D3 n4 (by simp [hL0])) D4 n5 (by simp [hL0])
            walk_at "sx"
            walk_at "st"
            walk_at "sx"
            refine sx_newM n5.h (by simp) fun Cw H6 hCw n6 m6 => ?_
            have D6 := D5.up n6
            have offw := D5.off hCw
            walk_at "sx"
            refine ⟨B3, d, l, Cw, _, rfl, n6.h, D6, m6.sq, offw.1, offw.2, by simp, by simp, fun B7 H7 q v n7 D7 hv => ?_⟩
            obtain ⟨wd, hwd, rfl⟩ : ∃ wd, wd ∈ four ∧ v = V.str wd := by
              have : v ∈ four.map V.str := List.mem_of_getElem? hv
              obtain ⟨wd, h1, h2⟩ := List.mem_map.mp this
              exact ⟨wd, h1, h2.symm⟩
            have m7 := (m5.up n6).up n7 (by simp [off.1, off.2])
            have n57 := Deal.via n6 D6 n7
            walk_at "sx"
            refine sx_newT (K := K) n7.h (.cons (.str wd) (.cons (Dp.up n7.b dp1) (.cons (Dp.up n7.b dp2) .nil))) (by simp) fun p8 B8 H8 hp8 n8 d8 => ?_
            have D8 := D7.up n8
            walk_at "sx"
            refine sx_append (m7.up n8) n8.h (by omega) fun H9 n9 m9 => ?_
            have n29 := Deal.go ((n25.trans n57 fun b hb _ => D5.in b hb).trans (n8.wk (by simp)) fun b hb _ => D7.in b hb) D8 n9 (by simp [hL0])
            refine ⟨(rs ++ [Pat.two wd q2 q1]).length, ?_, B8, _, rs ++ [.two wd q2 q1], _, _, _, _, _, rfl, rfl, n29, D8.up n9 (by simp [off.1.symm, off.2.symm]), m9, ?_, ?_, ?_, by simp⟩
            · simp
            · rw [List.map_append]
              exact Dps.app (Dps.up (n7.b.trans n8.b) dws) (.cons d8 .nil)
            · intro p hp
              rcases List.mem_append.mp hp with z | z
              · exact okr p z
              · rw [List.mem_singleton.mp z]
                exact ⟨four_ok wd hwd, ok3, ok1⟩
            · rw [sz_app, sz1, List.length_append, List.length_singleton]
              simp only [Pat.size]
              omega
          · refine ifF (dF (by omega)) ?_
            have : qs = [] := by
              rw [List.length_append, List.length_singleton] at h1
              exact List.length_eq_zero_iff.mp (by omega)
            subst this
            have : us = [] := List.length_eq_zero_iff.mp l3
            subst this
            exact ⟨B3, v1, q1, _, _, _, _, _, rfl, n3, D3, m3, dp2, ok1, by simp [sz] at z2; omega⟩
      · rintro σ H' ⟨B', v, p, y4, y5, y6, y7, y8, rfl, n', D', m', d', ok', z'⟩
        walk_at "sx"
        exact k B' H' v p n' D' d' ok' z'
end
end C
namespace C
open PySem L2 G
section
variable {P : Program} {w : World} {K : PySem.W.Frag} {mg : Str → Option Value} {base : Heap}
/-! ### need_pattern; what is told of it -/
def spNeed (K : PySem.W.Frag) (mg : Str → Option Value) : Sp := fun vs H Q E => ∃ (B : Hp) (a : Addr) (ls : List Str) (x : V) (d : PyData) (o : Option Nat), vs = [.ref a, x] ∧ Ex B H ∧ SqT K B a (ls.map V.str) ∧ Dp K B x d ∧ szD d ≤ 30000 ∧ Scan ls [d] 0 o ∧
  (o = none → ∀ B' H', Nx [] B H B' H' → Q .non H') ∧ ∀ n : Nat, o = some n → ∀ C dd B' H', mg "InvalidPattern" = some (.ref C) → Nx [] B H B' H' → H' dd = some (.xd [("at", .int (n : Int))]) → E (.ref C) (some dd) H'
theorem ok_need_pattern (T : Txt w K mg) : HasX P w K mg base "need_pattern" s_need_pattern 4 ["letters", "value"] (spNeed K mg) := by
  refine has_mkX T.d_need_pattern sc_need_pattern (fun _ _ _ _ _ _ us hl => match us, hl with | [_, _], _ => rfl) (fun vs H Q E h => ?_) (fun f cdv A outer s H vs Q E hr h => ?_)
  · obtain ⟨_, _, _, _, _, _, rfl, _⟩ := h
    rfl
  · obtain ⟨B, a, ls, x, d, o, rfl, e, hS, hx, hz, sc, k1, k2⟩ := h
    obtain ⟨C, fI, TE⟩ := T.e_InvalidPattern
    refine ⟨_, (pss_cons (ps_set (i := 2) sc_need_pattern.nd rfl (.inl rfl) (pe_callH (ok_first_wrong_part T) hr (by rfl) (pa_cons (pv 0) (pa_cons (pv 1) pa_nil))))
      (pss_one (ps_if (pt_cmpR op_notN1 (pv 2) pe_non (nomark _))
      (pss_one (ps_raise1 (W := fun cls d _ H => E cls d H) TE rfl hr (takes_of rfl rfl rfl rfl) (pa_cons (pv 2) pa_nil)))
      pss_nil))), ?_⟩
    walk_at "go"
    refine ⟨B, a, ls, x, d, o, rfl, e, hS, hx, hz, sc, fun B1 H1 n1 => ?_⟩
    walk_at "sx"
    cases o with
    | none =>
      refine ifF rfl ?_
      walk_at "sx"
      exact k1 rfl B1 H1 n1
    | some n =>
      refine ifT rfl ?_
      walk_at "sx"
      intro dd hd
      exact k2 n rfl C dd B1 _ TE.gC (n1.tr (Nx.own n1.h hd)) upd_same
def rV (o : Option Nat) : PyData := match o with
  | none => .str "right"
  | some n => .int (n : Int)
def spRefused (K : PySem.W.Frag) : Sp := fun vs H Q _ => ∃ (B : Hp) (a : Addr) (ls : List Str) (x : V) (d : PyData) (o : Option Nat) (b : Bool), vs = [.ref a, x, .bl b] ∧ Ex B H ∧ SqT K B a (ls.map V.str) ∧ Dp K B x d ∧ szD d ≤ 30000 ∧ Scan ls [d] 0 o ∧
  ∀ B' H' v, Nx [] B H B' H' → Dp K B' v (rV o) → Q v H'
theorem ok_law_refused_part (T : Txt w K mg) : Has P w K mg base "_law_refused_part" s_law_refused_part 5 ["letters", "value", "is_named"] (spRefused K) := by
  refine has_mk T.d_law_refused_part sc_law_refused_part (fun _ _ _ _ _ _ us hl => match us, hl with | [_, _, _], _ => rfl) (fun vs H Q E h => ?_) (fun f cdv A outer s H vs Q E hr h => ?_)
  · obtain ⟨_, _, _, _, _, _, _, rfl, _⟩ := h
    rfl
  · obtain ⟨B, a, ls, x, d, o, b, rfl, e, hS, hx, hz, sc, k⟩ := h
    obtain ⟨C, fI, TE⟩ := T.e_InvalidPattern
    refine ⟨_, (pss_one (ps_try_first (i := 4) rfl rfl sc_law_refused_part.nd rfl rfl ⟨rfl, by decide, .inl TE.gC⟩ (fun W pn xe tk _ => (pss_cons (ps_set (i := 3) sc_law_refused_part.nd rfl (.inl rfl) (pe_ifExp (pt_val (pv 2)) (pe_callXK (ok_need_pattern T) (kb_swap (fun _ _ _ _ _ _ _ _ => rfl)) hr tk (by rfl) (pk_cons (pv 1) (pk_cons (pv 0) pk_nil))) (pe_callX (ok_need_pattern T) hr tk (by rfl) (pa_cons (pv 0) (pa_cons (pv 1) pa_nil)))))
      (pss_one (ps_ret (pe_ifExp (pt_cmpR op_isN1 (pv 3) pe_non (nomark _)) pe_str pe_str)))))
      (fun a oe cls d pn hz hf => (pss_one (ps_ret (pe_xf TE.xf (TE.noN _ (by simp)) hz hf (pv 4))))))), ?_⟩
    walk_at "go"
    cases b with
    | true =>
      refine ifT rfl ?_
      walk_at "sx"
      refine ⟨B, a, ls, x, d, o, rfl, e, hS, hx, hz, sc, ?_, ?_⟩
      · rintro rfl B1 H1 n1
        walk_at "sx"
        walk_at "st"
        walk_at "sx"
        refine ifT rfl ?_
        walk_at "sx"
        exact k B1 H1 _ n1 (.str _)
      · rintro n rfl C2 dd B1 H1 hC n1 hd
        cases TE.gC.symm.trans hC
        refine ⟨TE.te, fun a0 ha0 => ?_⟩
        walk_at "st"
        walk_at "sx"
        refine ⟨rfl, rfl, dd, _, _, rfl, hd, rfl, ?_⟩
        exact k B1 H1 _ n1 (.int _)
    | false =>
      refine ifF rfl ?_
      walk_at "sx"
      refine ⟨B, a, ls, x, d, o, rfl, e, hS, hx, hz, sc, ?_, ?_⟩
      · rintro rfl B1 H1 n1
        walk_at "sx"
        walk_at "st"
        walk_at "sx"
        refine ifT rfl ?_
        walk_at "sx"
        exact k B1 H1 _ n1 (.str _)
      · rintro n rfl C2 dd B1 H1 hC n1 hd
        cases TE.gC.symm.trans hC
        refine ⟨TE.te, fun a0 ha0 => ?_⟩
        walk_at "st"
        walk_at "sx"
        refine ⟨rfl, rfl, dd, _, _, rfl, hd, rfl, ?_⟩
        exact k B1 H1 _ n1 (.int _)
end
end C
namespace C
open PySem L2 G
section
variable {P : Program} {w : World} {K : PySem.W.Frag} {mg : Str → Option Value} {base : Heap}
/-- the law itself -/
def spLaw (K : PySem.W.Frag) : Sp := fun vs H Q _ => ∃ (a : Addr) (ns : List Int), vs = [.ref a] ∧ SqL K H a (ns.map V.int) ∧ ns.length ≤ 63 ∧ ∀ H', Q (.bl true) H'
end
end C
namespace C
open PySem L2 G
section
variable {P : Program} {w : World} {K : PySem.W.Frag} {mg : Str → Option Value} {base : Heap}
/-! ### wrong things -/
def bads (z : Str) : List PyData := [.none, .int 0, .str "a", .tuple [], .list [], .list [.str "letter", .str z], .tuple [.str "letter"], .tuple [.str "letter", .str "q"], .tuple [.str "letter", .str (Txt.mul z 2)], .tuple [.str "letter", .str ""], .tuple [.str "letter", .int 0], .tuple [.str "letter", .str z, .str z]]
  ++ [.tuple [.str "any", .int 0], .tuple [.str "blank", .tuple []], .tuple [.str "nothing", .tuple [.str "letter", .str z]], .tuple [.str "some"], .tuple [.str "many"], .tuple [.str "many", .tuple [.str "letter", .str z], .tuple [.str "letter", .str z]], .tuple [.str "not"], .tuple [.str "or", .tuple [.str "letter", .str z]],
    .tuple [.str "and", .tuple [.str "letter", .str z], .tuple [.str "letter", .str z], .tuple [.str "letter", .str z]], .tuple [.str "then"]]
  ++ [.tuple [.int 0], .tuple [.str "Any"], .tuple [.tuple [.str "any"]], .tuple [.str "or", .tuple [.str "letter", .str z], .tuple [.str "letter", .str z], .tuple [.str "letter", .str z]], .tuple [.none, .tuple [.str "letter", .str z]], .tuple [.str "then", .tuple [.str "letter", .str z]], .bool true, .tuple [.str "letter", .tuple [.str z]]]
theorem no_alone {ls : List Str} {w : Str} {ds : List PyData} (h : w ∈ (["any", "blank", "nothing"] : List Str)) (hd : ds.length ≠ 0) : ptP ls (.tuple (.str w :: ds)) = none := by rw [pt_cons, if_pos h, if_neg hd]
theorem no_one {ls : List Str} {w : Str} {ds : List PyData} (h : w ∈ (["many", "not"] : List Str)) (hd : ds.length ≠ 1) : ptP ls (.tuple (.str w :: ds)) = none := by
  obtain ⟨h1, h2⟩ := one_w w h
  rw [pt_cons, if_neg h1, if_neg h2, if_pos h, if_neg hd]
theorem no_two {ls : List Str} {w : Str} {ds : List PyData} (h : w ∈ (["or", "and", "then"] : List Str)) (hd : ds.length ≠ 2) : ptP ls (.tuple (.str w :: ds)) = none := by
  obtain ⟨h1, h2, h3⟩ := two_w w h
  rw [pt_cons, if_neg h1, if_neg h2, if_neg h3, if_pos h, if_neg hd]
theorem no_word {ls : List Str} {w : Str} {ds : List PyData} (h : w ∈ (["some", "Any"] : List Str)) : ptP ls (.tuple (.str w :: ds)) = none := by
  have k : ∀ w ∈ (["some", "Any"] : List Str), w ∉ (["any", "blank", "nothing"] : List Str) ∧ w ≠ "letter" ∧ w ∉ (["many", "not"] : List Str) ∧ w ∉ (["or", "and", "then"] : List Str) := by decide +kernel
  obtain ⟨h1, h2, h3, h4⟩ := k w h
  rw [pt_cons, if_neg h1, if_neg h2, if_neg h3, if_neg h4]
theorem no_let {ls : List Str} {ds : List PyData} (h : ltP ls ds = none) : ptP ls (.tuple (.str "letter" :: ds)) = none := by rw [pt_cons, if_neg let_w, if_pos rfl, h]
theorem no_ltr {ls : List Str} {x : PyData} (h : ltr ls x = false) : ltP ls [x] = none := by
  show (if ltr ls x = true then some [] else none) = none
  rw [h]
  rfl
theorem twice_no : ∀ z ∈ six, Txt.mul z 2 ∉ six := by decide +kernel
theorem bad_no {ls : List Str} {z : Str} (hz : z ∈ ls) (h6 : ∀ y ∈ ls, y ∈ six) : ∀ b ∈ bads z, ptP ls b = none := by
  have off : ∀ y : Str, y ∉ six → ltr ls (.str y) = false := fun y hy => by
    show decide (y ∈ ls) = false
    exact decide_eq_false fun h => hy (h6 y h)
  unfold bads
  simp only [List.cons_append, List.nil_append]
  refine List.forall_mem_cons.mpr ⟨rfl, ?_⟩
  refine List.forall_mem_cons.mpr ⟨rfl, ?_⟩
  refine List.forall_mem_cons.mpr ⟨rfl, ?_⟩
  refine List.forall_mem_cons.mpr ⟨rfl, ?_⟩
  refine List.forall_mem_cons.mpr ⟨rfl, ?_⟩
  refine List.forall_mem_cons.mpr ⟨rfl, ?_⟩
  refine List.forall_mem_cons.mpr ⟨no_let rfl, ?_⟩
  refine List.forall_mem_cons.mpr ⟨no_let (no_ltr (off "q" (by decide +kernel))), ?_⟩
  refine List.forall_mem_cons.mpr ⟨no_let (no_ltr (off _ (twice_no z (h6 z hz)))), ?_⟩
  refine List.forall_mem_cons.mpr ⟨no_let (no_ltr (off "" (by decide +kernel))), ?_⟩
  refine List.forall_mem_cons.mpr ⟨no_let (no_ltr rfl), ?_⟩
  refine List.forall_mem_cons.mpr ⟨no_let rfl, ?_⟩
  refine List.forall_mem_cons.mpr ⟨no_alone (by decide +kernel) (by simp), ?_⟩
  refine List.forall_mem_cons.mpr ⟨no_alone (by decide +kernel) (by simp), ?_⟩
  refine List.forall_mem_cons.mpr ⟨no_alone (by decide +kernel) (by simp), ?_⟩
  refine List.forall_mem_cons.mpr ⟨no_word (by decide +kernel), ?_⟩
  refine List.forall_mem_cons.mpr ⟨no_one (by decide +kernel) (by simp), ?_⟩
  refine List.forall_mem_cons.mpr ⟨no_one (by decide +kernel) (by simp), ?_⟩
  refine List.forall_mem_cons.mpr ⟨no_one (by decide +kernel) (by simp), ?_⟩
  refine List.forall_mem_cons.mpr ⟨no_two (by decide +kernel) (by simp), ?_⟩
  refine List.forall_mem_cons.mpr ⟨no_two (by decide +kernel) (by simp), ?_⟩
  refine List.forall_mem_cons.mpr ⟨no_two (by decide +kernel) (by simp), ?_⟩
  refine List.forall_mem_cons.mpr ⟨rfl, ?_⟩
  refine List.forall_mem_cons.mpr ⟨no_word (by decide +kernel), ?_⟩
  refine List.forall_mem_cons.mpr ⟨rfl, ?_⟩
  refine List.forall_mem_cons.mpr ⟨no_two (by decide +kernel) (by simp), ?_⟩
  refine List.forall_mem_cons.mpr ⟨rfl, ?_⟩
  refine List.forall_mem_cons.mpr ⟨no_two (by decide +kernel) (by simp), ?_⟩
  refine List.forall_mem_cons.mpr ⟨rfl, ?_⟩
  refine List.forall_mem_cons.mpr ⟨no_let (no_ltr rfl), ?_⟩
  intro b hb
  cases hb
theorem len_six : ∀ z ∈ six, z.length = 1 := by decide +kernel
theorem bad_sz (z : Str) : ∀ b ∈ bads z, szD b ≤ 20 := by
  have : (bads z).all (fun b => decide (szD b ≤ 20)) = true := rfl
  intro b hb
  exact of_decide_eq_true (List.all_eq_true.mp this b hb)
theorem pat_sz : ∀ p : Pat, szD p.d ≤ 3 * p.size
  | .letter _ => by simp [Pat.d, szD, szDs, Pat.size]
  | .alone _ => by simp [Pat.d, szD, szDs, Pat.size]
  | .one _ p => by
    have := pat_sz p
    simp [Pat.d, szD, szDs, Pat.size]
    omega
  | .two _ p q => by
    have := pat_sz p
    have := pat_sz q
    simp [Pat.d, szD, szDs, Pat.size]
    omega
theorem ex_sz {x : PyData} {p : Pat} {v : List Nat} {i : Nat} (h : At p v i) : szD (p.ex x v) ≤ szD p.d + szD x := by
  induction h with
  | nil p =>
    have : p.ex x [] = x := by cases p <;> rfl
    rw [this]
    omega
  | one h ih =>
    simp [Pat.ex, Pat.d, szD, szDs]
    omega
  | two1 h ih =>
    simp [Pat.ex, Pat.d, szD, szDs]
    omega
  | two2 h ih =>
    simp [Pat.ex, Pat.d, szD, szDs]
    omega
theorem at_len {p : Pat} {v : List Nat} {i : Nat} (h : At p v i) : v.length ≤ p.size := by
  induction h with
  | nil p => exact Nat.zero_le _
  | one h ih => simp [Pat.size]; omega
  | two1 h ih => simp [Pat.size]; omega
  | two2 h ih => simp [Pat.size]; omega
theorem strs_of {K : PySem.W.Frag} {B : Hp} : ∀ {ss : List Str} {xs : List V}, DpAll K B xs (ss.map PyData.str) → xs = ss.map V.str
  | [], _, h => by cases h; rfl
  | s :: r, _, h => by
    cases h with
    | cons a b =>
      cases Dp.str_v a
      rw [strs_of b]
      rfl
theorem strs_d {K : PySem.W.Frag} {B : Hp} : ∀ (ss : List Str), DpAll K B (ss.map V.str) (ss.map PyData.str)
  | [] => .nil
  | s :: r => .cons (.str s) (strs_d r)
/-! ### what stays along the law's turns -/
structure LT (K : PySem.W.Frag) (d l L pw pb a : Addr) (ls : List Str) (z : Str) (vp : V) (p : Pat) (n : Nat) (B H : Hp) : Prop where
  xs : ∃ xs, Mu B H L xs ∧ (∀ x ∈ xs, PairOk K B x) ∧ xs.length ≤ n
  e : Ex B H
  D : Deal B H d l
  hl : SqT K B a (ls.map V.str)
  dp : Dp K B vp p.d
  mw : ∃ ws, Mu B H pw ws ∧ DpAll K B ws (p.ways.map wdP)
  mb : ∃ bs, Mu B H pb bs ∧ DpAll K B bs (bads z)
  o : (L ≠ d ∧ L ≠ l) ∧ (pw ≠ d ∧ pw ≠ l) ∧ (pb ≠ d ∧ pb ≠ l) ∧ pw ≠ L ∧ pb ≠ L
section
variable {d l L pw pb a : Addr} {ls : List Str} {z : Str} {vp : V} {p : Pat} {n : Nat} {B H B' H' : Hp}
theorem LT.up0 (h : LT K d l L pw pb a ls z vp p n B H) (m : Nx [] B H B' H') : LT K d l L pw pb a ls z vp p n B' H' := by
  obtain ⟨⟨xs, x1, x2, x3⟩, e, D, hl, dp, ⟨ws, w1, w2⟩, ⟨bs, b1, b2⟩, o⟩ := h
  exact ⟨⟨xs, x1.up m, fun x hx => (x2 x hx).up m.b, x3⟩, m.h, D.up m, m.b.t hl, Dp.up m.b dp, ⟨ws, w1.up m, Dps.up m.b w2⟩, ⟨bs, b1.up m, Dps.up m.b b2⟩, o⟩
theorem LT.upD (h : LT K d l L pw pb a ls z vp p n B H) (m : Nx [d, l] B H B' H') (D' : Deal B' H' d l) : LT K d l L pw pb a ls z vp p n B' H' := by
  obtain ⟨⟨xs, x1, x2, x3⟩, e, D, hl, dp, ⟨ws, w1, w2⟩, ⟨bs, b1, b2⟩, o⟩ := h
  exact ⟨⟨xs, x1.up m (by simp [o.1]), fun x hx => (x2 x hx).up m.b, x3⟩, m.h, D', m.b.t hl, Dp.up m.b dp, ⟨ws, w1.up m (by simp [o.2.1]), Dps.up m.b w2⟩, ⟨bs, b1.up m (by simp [o.2.2.1]), Dps.up m.b b2⟩, o⟩
theorem LT.add {v : V} {Q : VK} (h : LT K d l L pw pb a ls z vp p n B H) (hn : n < 50000) (hv : PairOk K B v) (q : ∀ H', Nx [L] B H B H' → LT K d l L pw pb a ls z vp p (n + 1) B H' → Q .non H') : rAppend (.ref L) [v] H Q := by
  obtain ⟨⟨xs, x1, x2, x3⟩, e, D, hl, dp, ⟨ws, w1, w2⟩, ⟨bs, b1, b2⟩, o⟩ := h
  refine sx_append x1 e (by omega) fun H' n' m' => q H' n' ⟨⟨_, m', fun x hx => ?_, by simp; omega⟩, n'.h, D.up n' (by simp [o.1.1.symm, o.1.2.symm]), hl, dp, ⟨ws, w1.up n' (by simp [o.2.2.2.1]), w2⟩, ⟨bs, b1.up n' (by simp [o.2.2.2.2]), b2⟩, o⟩
  rcases List.mem_append.mp hx with y | y
  · exact x2 x y
  · rw [List.mem_singleton] at y
    rw [y]
    exact hv
theorem LT.ty (h : LT K d l L pw pb a ls z vp p n B H) {A : Prop} (q : A) : tyV K "list" (.ref L) H ∧ A := by
  obtain ⟨xs, m, _⟩ := h.xs
  exact sx_tyL m.sq q
/-- one of the wrong things -/
theorem LT.bad {Q : VK} {E : XK} (h : LT K d l L pw pb a ls z vp p n B H) (hz : z ∈ ls) (h6 : ∀ y ∈ ls, y ∈ six) (q : ∀ B' H' v b, Nx [d, l] B H B' H' → LT K d l L pw pb a ls z vp p n B' H' → Dp K B' v b → ptP ls b = none → szD b ≤ 20 → Q v H') : spOf K [.ref d, .ref pb] H Q E := by
  obtain ⟨bs, b1, b2⟩ := h.mb
  have lb := Dps.len b2
  have l30 : (bads z).length = 30 := rfl
  refine ⟨B, d, l, pb, bs, rfl, h.e, h.D, b1.sq, h.o.2.2.1.1, h.o.2.2.1.2, by omega, by omega, fun B1 H1 i v n1 D1 hv => ?_⟩
  obtain ⟨b, hb, db⟩ := Dps.got b2 hv
  have hm := List.mem_of_getElem? hb
  exact q B1 H1 v b n1 (h.upD n1 D1) (Dp.up n1.b db) (bad_no hz h6 b hm) (bad_sz z b hm)
/-- a place -/
theorem LT.way {Q : VK} {E : XK} {m : Nat} (h : LT K d l L pw pb a ls z vp p n B H) (hp : p.size ≤ 1000) (hm : m = p.size) (q : ∀ B' H' (i : Nat) v, Nx [d, l] B H B' H' → LT K d l L pw pb a ls z vp p n B' H' → p.ways[i]? = some v → Q (.int (i : Int)) H') : spAny [.ref d, .int (m : Int)] H Q E := by
  have := p.size_pos
  refine ⟨B, d, l, _, rfl, h.e, h.D, by omega, by omega, fun B1 H1 r n1 D1 r0 r1 => ?_⟩
  obtain ⟨i, rfl⟩ : ∃ i : Nat, r = (i : Int) := ⟨r.toNat, by omega⟩
  have hi : i < p.ways.length := by rw [Pat.ways_len]; omega
  exact q B1 H1 i p.ways[i] n1 (h.upD n1 D1) (List.getElem?_eq_getElem hi)
theorem LT.wl (h : LT K d l L pw pb a ls z vp p n B H) {Q : VK} (q : ∀ m : Nat, m = p.size → Q (.int (m : Int)) H) : G.rLen K [.ref pw] H Q := by
  obtain ⟨ws, w1, w2⟩ := h.mw
  have lw := Dps.len w2
  rw [List.length_map, Pat.ways_len] at lw
  exact sx_lenL w1.sq (q _ lw)
theorem LT.ix {i : Nat} {v : List Nat} (h : LT K d l L pw pb a ls z vp p n B H) (hv : p.ways[i]? = some v) {Q : VK} (q : ∀ w, Dp K B w (wdP v) → Q w H) : rIxL K (.ref pw) (.int (i : Int)) H Q := by
  obtain ⟨ws, w1, w2⟩ := h.mw
  obtain ⟨w, hw, dw⟩ := Dps.get w2 (i := i) (d := wdP v) (by rw [List.getElem?_map, hv]; rfl)
  exact sx_ixL w1.sq (atI_nat hw) (q w dw)
end
theorem pair_of {K : PySem.W.Frag} {B : Hp} {p : Addr} {d : PyData} (h : Dp K B (.ref p) (.tuple [d, d])) (ok : okN 8 d = true) : PairOk K B (.ref p) := by
  obtain ⟨q, ys, e, hq, dq⟩ := Dp.tup_v h
  cases e
  cases dq with
  | cons da db =>
    cases db with
    | cons db dc =>
      cases dc
      exact ⟨_, _, _, _, rfl, hq, da, db, ok⟩
/-- asked of a thing, beside what is due -/
theorem LT.ask {K : PySem.W.Frag} {d l L pw pb a : Addr} {ls : List Str} {z : Str} {vp : V} {p : Pat} {n : Nat} {B H : Hp} {Q : VK} {E : XK} {x : V} {dx : PyData} {i : Nat} (h : LT K d l L pw pb a ls z vp p n B H) (hx : Dp K B x dx) (hz : szD dx ≤ 30000) (sc : Scan ls [dx] 0 (some i)) (q : ∀ B' H' v, Nx [] B H B' H' → LT K d l L pw pb a ls z vp p n B' H' → Dp K B' v (.int (i : Int)) → Q v H') : spRefused K [.ref a, x, .bl false] H Q E :=
  ⟨B, a, ls, x, dx, some i, false, rfl, h.e, h.hl, hx, hz, sc, fun B' H' v n' d' => q B' H' v n' (h.up0 n') d'⟩
theorem LT.with {K : PySem.W.Frag} {d l L pw pb a : Addr} {ls : List Str} {z : Str} {vp : V} {p : Pat} {n : Nat} {B H : Hp} {Q : VK} {E : XK} {x y : V} {dx : PyData} {v : List Nat} {i : Nat} (h : LT K d l L pw pb a ls z vp p n B H) (hp : p.size ≤ 1000) (hy : Dp K B y (wdP v)) (hx : Dp K B x dx) (at' : At p v i)
    (q : ∀ B' H' r, Nx [] B H B' H' → LT K d l L pw pb a ls z vp p n B' H' → Dp K B' r (p.ex dx v) → Q r H') : spWith K [vp, y, x] H Q E :=
  ⟨B, vp, y, x, p, v, i, dx, rfl, h.e, h.dp, hy, hx, at', by have := at_len at'; omega, fun B' H' r n' d' => q B' H' r n' (h.up0 n') d'⟩
theorem ok_law (T : Txt w K mg) : Has P w K mg base "law" s_law 11 ["script"] (spLaw K) := by
  refine has_mk T.d_law sc_law (fun _ _ _ _ _ _ us hl => match us, hl with | [_], _ => rfl) (fun vs H Q E h => ?_) (fun f cdv A outer s' H vs Q E hr h => ?_)
  · obtain ⟨_, _, rfl, _⟩ := h
    rfl
  · obtain ⟨a, is, rfl, hS, hz, k⟩ := h
    refine ⟨_, (pss_cons (ps_par (i := 1) (j := 2) (by rfl) sc_law.nd rfl rfl (by decide) rfl rfl (pa_cons (pe_callH (ok_law_deal T) hr (by rfl) (pa_cons (pv 0) (pa_cons pe_int pa_nil))) (pa_cons (pe_lst pa_nil) pa_nil)) (by rfl))
      (pss_cons (ps_for PassesOwn.never rfl (pi_range1 (by rfl) T.b_range (pa_cons pe_int pa_nil)) (pg_name (i := 3) sc_law.nd rfl (.inl rfl))
      (pss_cons (ps_set (i := 4) sc_law.nd rfl (.inl rfl) (pe_callH (ok_law_alphabet T) hr (by rfl) (pa_cons (pv 1) (pa_cons pe_int pa_nil))))
      (pss_cons (ps_set (i := 5) sc_law.nd rfl (.inl rfl) (pe_callH (ok_law_grown T) hr (by rfl) (pa_cons (pv 1) (pa_cons (pv 4) (pa_cons (pe_op op_add pe_int (pe_callH (ok_law_any T) hr (by rfl) (pa_cons (pv 1) (pa_cons pe_int pa_nil)))) pa_nil)))))
      (pss_cons (ps_expr (pe_bm PySem.F.plainAttrs_list PySem.F.slot_list_append PySem.F.type_list_append mt_append (pv 2) (pa_cons (pe_tup (pa_cons (pe_callH (ok_law_refused_part T) hr (by rfl) (pa_cons (pv 4) (pa_cons (pv 5) (pa_cons (pe_cmpR op_eq (pv 3) pe_int (nomark _)) pa_nil)))) (pa_cons pe_str pa_nil))) pa_nil)))
      (pss_cons (ps_set (i := 6) sc_law.nd rfl (.inl rfl) (pe_callH (ok_law_ways T) hr (by rfl) (pa_cons (pv 5) pa_nil)))
      (pss_cons (ps_set (i := 7) sc_law.nd rfl (.inl rfl) (pe_tupD (pa_cons pe_str (pa_cons (pe_ix ix_tup (pv 4) pe_int (fun _ _ => rfl)) pa_nil))))
      (pss_cons (ps_set (i := 8) sc_law.nd rfl (.inl rfl) (pe_lstD (pa_cons pe_non (pa_cons pe_int (pa_cons pe_str (pa_cons (pe_tup pa_nil) (pa_cons (pe_lst pa_nil) (pa_cons (pe_callTy cl_list (by rfl) T.b_list (by decide +kernel) (pa_cons (pv 7) pa_nil)) (pa_cons (pe_tup (pa_cons pe_str pa_nil)) (pa_cons (pe_tup (pa_cons pe_str (pa_cons pe_str pa_nil))) (pa_cons (pe_tup (pa_cons pe_str (pa_cons (pe_op op_mulS (pe_ix ix_tup (pv 4) pe_int (fun _ _ => rfl)) pe_int) pa_nil))) (pa_cons (pe_tup (pa_cons pe_str (pa_cons pe_str pa_nil))) (pa_cons (pe_tup (pa_cons pe_str (pa_cons pe_int pa_nil))) (pa_cons (pe_tup (pa_cons pe_str (pa_cons (pe_ix ix_tup (pv 4) pe_int (fun _ _ => rfl)) (pa_cons (pe_ix ix_tup (pv 4) pe_int (fun _ _ => rfl)) pa_nil)))) pa_nil))))))))))))))
      (pss_cons (ps_set (i := 8) sc_law.nd rfl (.inl rfl) (pe_op op_cat (pv 8) (pe_lstD (pa_cons (pe_tup (pa_cons pe_str (pa_cons pe_int pa_nil))) (pa_cons (pe_tup (pa_cons pe_str (pa_cons (pe_tup pa_nil) pa_nil))) (pa_cons (pe_tup (pa_cons pe_str (pa_cons (pv 7) pa_nil))) (pa_cons (pe_tup (pa_cons pe_str pa_nil)) (pa_cons (pe_tup (pa_cons pe_str pa_nil)) (pa_cons (pe_tup (pa_cons pe_str (pa_cons (pv 7) (pa_cons (pv 7) pa_nil)))) (pa_cons (pe_tup (pa_cons pe_str pa_nil)) (pa_cons (pe_tup (pa_cons pe_str (pa_cons (pv 7) pa_nil))) (pa_cons (pe_tup (pa_cons pe_str (pa_cons (pv 7) (pa_cons (pv 7) (pa_cons (pv 7) pa_nil))))) (pa_cons (pe_tup (pa_cons pe_str pa_nil)) pa_nil)))))))))))))
      (pss_cons (ps_set (i := 8) sc_law.nd rfl (.inl rfl) (pe_op op_cat (pv 8) (pe_lstD (pa_cons (pe_tup (pa_cons pe_int pa_nil)) (pa_cons (pe_tup (pa_cons pe_str pa_nil)) (pa_cons (pe_tup (pa_cons (pe_tup (pa_cons pe_str pa_nil)) pa_nil)) (pa_cons (pe_tup (pa_cons pe_str (pa_cons (pv 7) (pa_cons (pv 7) (pa_cons (pv 7) pa_nil))))) (pa_cons (pe_tup (pa_cons pe_non (pa_cons (pv 7) pa_nil))) (pa_cons (pe_tup (pa_cons pe_str (pa_cons (pv 7) pa_nil))) (pa_cons pe_bl (pa_cons (pe_tup (pa_cons pe_str (pa_cons (pe_tup (pa_cons (pe_ix ix_tup (pv 4) pe_int (fun _ _ => rfl)) pa_nil)) pa_nil))) pa_nil)))))))))))
      (pss_cons (ps_for PassesOwn.never rfl (pi_range1 (by rfl) T.b_range (pa_cons pe_int pa_nil)) (pg_name (i := 9) sc_law.nd rfl (.inl rfl))
      (pss_cons (ps_set (i := 10) sc_law.nd rfl (.inl rfl) (pe_callH (ok_law_any T) hr (by rfl) (pa_cons (pv 1) (pa_cons (pe_callB cl_len (by rfl) T.b_len (by decide +kernel) (pa_cons (pv 6) pa_nil)) pa_nil))))
      (pss_cons (ps_set (i := 11) sc_law.nd rfl (.inl rfl) (pe_callH (ok_law_with T) hr (by rfl) (pa_cons (pv 5) (pa_cons (pe_ix ix_list (pv 6) (pv 10) (fun _ _ => rfl)) (pa_cons (pe_callH (ok_law_of T) hr (by rfl) (pa_cons (pv 1) (pa_cons (pv 8) pa_nil))) pa_nil)))))
      (pss_one (ps_expr (pe_bm PySem.F.plainAttrs_list PySem.F.slot_list_append PySem.F.type_list_append mt_append (pv 2) (pa_cons (pe_tup (pa_cons (pe_callH (ok_law_refused_part T) hr (by rfl) (pa_cons (pv 4) (pa_cons (pv 11) (pa_cons pe_bl pa_nil)))) (pa_cons (pv 10) pa_nil))) pa_nil)))))))
      (pss_cons (ps_set (i := 10) sc_law.nd rfl (.inl rfl) (pe_callH (ok_law_any T) hr (by rfl) (pa_cons (pv 1) (pa_cons (pe_callB cl_len (by rfl) T.b_len (by decide +kernel) (pa_cons (pv 6) pa_nil)) pa_nil))))
      (pss_cons (ps_set (i := 12) sc_law.nd rfl (.inl rfl) (pe_callH (ok_law_with T) hr (by rfl) (pa_cons (pv 5) (pa_cons (pe_ix ix_list (pv 6) (pv 10) (fun _ _ => rfl)) (pa_cons (pe_tup (pa_cons pe_str (pa_cons (pe_tup (pa_cons pe_str (pa_cons (pe_callH (ok_law_of T) hr (by rfl) (pa_cons (pv 1) (pa_cons (pv 8) pa_nil))) pa_nil))) (pa_cons (pe_callH (ok_law_of T) hr (by rfl) (pa_cons (pv 1) (pa_cons (pv 8) pa_nil))) pa_nil)))) pa_nil)))))
      (pss_cons (ps_expr (pe_bm PySem.F.plainAttrs_list PySem.F.slot_list_append PySem.F.type_list_append mt_append (pv 2) (pa_cons (pe_tup (pa_cons (pe_callH (ok_law_refused_part T) hr (by rfl) (pa_cons (pv 4) (pa_cons (pv 12) (pa_cons pe_bl pa_nil)))) (pa_cons (pe_op op_add (pv 10) pe_int) pa_nil))) pa_nil)))
      (pss_cons (ps_set (i := 13) sc_law.nd rfl (.inl rfl) (pe_callH (ok_law_with T) hr (by rfl) (pa_cons (pv 5) (pa_cons (pe_ix ix_list (pv 6) (pv 10) (fun _ _ => rfl)) (pa_cons (pe_tup (pa_cons pe_str (pa_cons (pv 7) (pa_cons (pe_tup (pa_cons pe_str (pa_cons (pe_callH (ok_law_of T) hr (by rfl) (pa_cons (pv 1) (pa_cons (pv 8) pa_nil))) pa_nil))) pa_nil)))) pa_nil)))))
      (pss_one (ps_expr (pe_bm PySem.F.plainAttrs_list PySem.F.slot_list_append PySem.F.type_list_append mt_append (pv 2) (pa_cons (pe_tup (pa_cons (pe_callH (ok_law_refused_part T) hr (by rfl) (pa_cons (pv 4) (pa_cons (pv 13) (pa_cons pe_bl pa_nil)))) (pa_cons (pe_op op_add (pv 10) pe_int) pa_nil))) pa_nil))))))))))))))))))
      (pss_one (ps_ret (pe_callH (ok_law_all T) hr (by rfl) (pa_cons (pe_op op_cat (pv 2) (pe_lst (pa_cons (pe_tup (pa_cons (pe_callH (ok_law_refused_part T) hr (by rfl) (pa_cons (pe_tupD (pa_cons pe_str pa_nil)) (pa_cons (pe_tupD (pa_cons pe_str (pa_cons (pe_tup (pa_cons pe_str (pa_cons pe_str pa_nil))) (pa_cons pe_non pa_nil)))) (pa_cons pe_bl pa_nil)))) (pa_cons pe_int pa_nil))) (pa_cons (pe_tup (pa_cons (pe_callH (ok_law_refused_part T) hr (by rfl) (pa_cons (pe_tupD (pa_cons pe_str (pa_cons pe_str pa_nil))) (pa_cons (pe_tupD (pa_cons pe_str (pa_cons (pe_tup (pa_cons pe_str (pa_cons pe_str pa_nil))) (pa_cons pe_non pa_nil)))) (pa_cons pe_bl pa_nil)))) (pa_cons pe_int pa_nil))) pa_nil)))) pa_nil)))))), ?_⟩
    walk_at "go"
    refine ⟨fun _ => none, a, is, 20, rfl, (fun _ _ h => by cases h), hS, hz, by decide, by decide, fun B1 H1 d l n1 D1 => ?_⟩
    walk_at "sx"
    refine sx_newM n1.h (by simp) fun L H2 hL n2 m2 => ?_
    have D2 := D1.up n2
    have off := D1.off hL
    walk_at "sx"
    walk_at "st"
    walk_at "sx"
    refine sx_forR_by (n := 6) (by omega) (fun i σ H' => ∃ (B' : Hp) (xs : List V) (y3 y4 y5 y6 y7 y8 y9 y10 y11 y12 y13 : Option V), σ = [some (.ref a), some (.ref d), some (.ref L), y3, y4, y5, y6, y7, y8, y9, y10, y11, y12, y13] ∧ Ex B' H' ∧ Deal B' H' d l ∧ Mu B' H' L xs ∧ (∀ x ∈ xs, PairOk K B' x) ∧ xs.length ≤ 13 * i) ?_ (fun i σ H3 hi p => ?_) (fun σ H3 p => ?_)
    · exact ⟨B1, [], _, _, _, _, _, _, _, _, _, _, _, rfl, n2.h, D2, m2, by simp, by simp⟩
    · clear D2 m2 n2
      obtain ⟨B3, xs, y3, y4, y5, y6, y7, y8, y9, y10, y11, y12, y13, rfl, e3, D3, m3, p3, l3⟩ := p
      refine sx_gname ?_
      walk_at "st"
      walk_at "sx"
      refine ⟨B3, d, l, 3, rfl, e3, D3, by decide, by decide, fun B4 H4 pa ls n4 D4 hl4 h0 h6 l6 => ?_⟩
      have m4 := m3.up n4 (by simp [off.1, off.2])
      have p4 : ∀ x ∈ xs, PairOk K B4 x := fun x hx => (p3 x hx).up n4.b
      walk_at "sx"
      walk_at "st"
      walk_at "sx"
      refine ⟨B4, d, l, 9, rfl, n4.h, D4, by decide, by decide, fun B5 H5 r n5 D5 r0 r1 => ?_⟩
      have m5 := m4.up n5 (by simp [off.1, off.2])
      have hl5 := n5.b.t hl4
      walk_at "sx"
      obtain ⟨j, hj⟩ : ∃ j : Nat, 2 + r = (j : Int) := ⟨(2 + r).toNat, by omega⟩
      rw [hj]
      refine ⟨B5, d, l, pa, ls, j, rfl, n5.h, D5, hl5, l6, by omega, by omega, fun B6 H6 vp p n6 D6 dp okp zp => ?_⟩
      have m6 := m5.up n6 (by simp [off.1, off.2])
      have p6 : ∀ x ∈ xs, PairOk K B6 x := fun x hx => (p4 x hx).up (n5.b.trans n6.b)
      have hl6 := n6.b.t hl5
      have zp : p.size ≤ 200 := by omega
      walk_at "sx"
      walk_at "st"
      walk_at "sx"
      refine ⟨B6, pa, ls, vp, p.d, none, _, rfl, n6.h, hl6, dp, by have := pat_sz p; omega, scan_ok okp (Scan.nil _), fun B7 H7 v7 n7 d7 => ?_⟩
      walk_at "sx"
      refine sx_newT (K := K) n7.h (.cons d7 (.cons (.str "right") .nil)) (by simp) fun p8 B8 H8 hp8 n8 d8 => ?_
      have n68 := n7.tr n8
      have k8 : PairOk K B8 (.ref p8) := pair_of d8 rfl
      walk_at "sx"
      refine sx_append (m6.up n68) n8.h (by omega) fun H9 n9 m9 => ?_
      have p9 : ∀ x ∈ xs ++ [.ref p8], PairOk K B8 x := fun x hx => by
        rcases List.mem_append.mp hx with y | y
        · exact (p6 x y).up n68.b
        · rw [List.mem_singleton.mp y]
          exact k8
      have D9 := (D6.up n68).up n9 (by simp [off.1.symm, off.2.symm])
      have hl9 := n68.b.t hl6
      have dp9 := Dp.up n68.b dp
      walk_at "sx"
      refine ⟨B8, vp, p, ls, rfl, n9.h, dp9, okp, by omega, fun B10 H10 pw ws n10 hpw mw dw => ?_⟩
      have m10 := m9.up n10
      have oW := D9.off hpw
      have oWL := m9.ne hpw
      have D10 := D9.up n10
      have hl10 := n10.b.t hl9
      have dp10 := Dp.up n10.b dp9
      have p10 : ∀ x ∈ xs ++ [.ref p8], PairOk K B10 x := fun x hx => (p9 x hx).up n10.b
      walk_at "sx"
      walk_at "st"
      walk_at "sx"
      obtain ⟨z, zs, rfl⟩ : ∃ z zs, ls = z :: zs := by
        cases ls with
        | nil => exact absurd rfl h0
        | cons z zs => exact ⟨z, zs, rfl⟩
      have hd10 : Dp K B10 (.ref pa) (.tuple (.str z :: zs.map PyData.str)) := .tup hl10 (strs_d (z :: zs))
      refine sx_tupD (K := K) (B := B10) (ds := [.str "letter", .str z]) (by walk_at "dv") n10.h (by simp) fun v11 B11 H11 n11 d11 => ?_
      walk_at "sx"
      walk_at "st"
      walk_at "sx"
      have hd11 := Dp.up n11.b hd10
      refine sx_lstD (K := K) (B := B11) (ds := (bads z).take 12) (by show DVs K _ _ _ [_, _, _, _, _, _, _, _, _, _, _, _]; walk_at "dv"; exact PyProof.Rows.mulOk_of 1 2 (by have := len_six z (h6 z (by simp)); omega) (by decide) (by decide) (by decide) (by decide)) n11.h (by show 12 ≤ 100000; decide) fun p12 b12 B12 H12 hp12 n12 m12 d12 => ?_
      walk_at "sx"
      walk_at "st"
      walk_at "sx"
      have hd12 := Dp.up n12.b hd11
      have h112 := Dp.up n12.b d11
      refine sx_lstD (K := K) (B := B12) (ds := ((bads z).drop 12).take 10) (by show DVs K _ _ _ [_, _, _, _, _, _, _, _, _, _]; walk_at "dv") n12.h (by show 10 ≤ 100000; decide) fun p13 b13 B13 H13 hp13 n13 m13 d13 => ?_
      have l12 := Dps.len d12
      have l13 := Dps.len d13
      have e12 : ((bads z).take 12).length = 12 := rfl
      have e13 : (((bads z).drop 12).take 10).length = 10 := rfl
      have m12' := m12.up n13
      refine sx_cat n13.h m12'.h m13.h (by omega) fun p14 H14 hp14 n14 m14 => ?_
      have d14 := Dps.app (Dps.up n13.b d12) d13
      walk_at "sx"
      walk_at "st"
      walk_at "sx"
      have n1214 := n13.tr n14
      have h114 := Dp.up n1214.b h112
      have hd14 := Dp.up n1214.b hd12
      refine sx_lstD (K := K) (B := B13) (ds := (bads z).drop 22) (by show DVs K _ _ _ [_, _, _, _, _, _, _, _]; walk_at "dv") n14.h (by show 8 ≤ 100000; decide) fun p15 b15 B15 H15 hp15 n15 m15 d15 => ?_
      have l15 := Dps.len d15
      have e15 : ((bads z).drop 22).length = 8 := rfl
      refine sx_cat n15.h (m14.up n15).h m15.h (by rw [List.length_append]; omega) fun pb H16 hpb n16 mb => ?_
      have db : DpAll K B15 (b12 ++ b13 ++ b15) (bads z) := Dps.app (Dps.up n15.b d14) d15
      have n1016 := (((((n11.tr n12).tr n13).tr n14).tr n15).tr n16)
      have D16 := D10.up n1016
      have oB := (D10.up ((((n11.tr n12).tr n13).tr n14).tr n15)).off hpb
      have m16L := m10.up n1016
      have oBL : pb ≠ L := (m10.up ((((n11.tr n12).tr n13).tr n14).tr n15)).ne hpb
      have l8 : (xs ++ [V.ref p8]).length ≤ 13 * i + 1 := by simp; omega
      have lt : LT K d l L pw pb pa (z :: zs) z vp p (13 * i + 1) B15 H16 := ⟨⟨_, m16L, fun x hx => (p10 x hx).up n1016.b, l8⟩, n16.h, D16, n1016.b.t hl10, Dp.up n1016.b dp10, ⟨ws, mw.up n1016, Dps.up n1016.b dw⟩, ⟨_, mb, db⟩, off, oW, oB, oWL, oBL⟩
      have h1B := Dp.up (n15.tr n16).b h114
      have hz0 : z ∈ z :: zs := by simp
      walk_at "sx"
      walk_at "st"
      clear l8 oBL m16L oB D16 n1016 db l15 e15 d15 m15 hp15 n15 hd14 h114 n1214 d14 m14 n14 hp14 m12' e13 e12 l13 l12 d13 m13 n13 hp13 h112 hd12 d12 m12 n12 hp12 hd11 d11 n11 hd10 p10 dp10 hl10 D10 oWL oW m10 dw mw n10 hpw dp9 hl9 D9 p9 m9 n9 k8 n68 d8 hp8 n8 d7 n7 hl6 p6 m6 dp D6 n6 hl5 m5 D5 n5 p4 m4 hl4 D4 n4 l3 p3 m3 D3 e3
      walk_at "sx"
      refine sx_forR_by (n := 10) (by omega) (fun j σ H' => ∃ (B' : Hp) (y9 y10 y11 y12 y13 : Option V), σ = [some (.ref a), some (.ref d), some (.ref L), some (.int i), some (.ref pa), some vp, some (.ref pw), some v11, some (.ref pb), y9, y10, y11, y12, y13] ∧ LT K d l L pw pb pa (z :: zs) z vp p (13 * i + 1 + j) B' H' ∧ Dp K B' v11 (.tuple [.str "letter", .str z])) ⟨B15, _, _, _, _, _, rfl, lt, h1B⟩ (fun j σ H17 hj q => ?_) (fun σ H17 q => ?_)
      · clear lt h1B
        obtain ⟨B17, y9, y10, y11, y12, y13, rfl, lt, h1⟩ := q
        refine sx_gname ?_
        walk_at "st"
        walk_at "sx"
        refine lt.wl fun m em => ?_
        walk_at "sx"
        refine lt.way (by omega) em fun B18 H18 j' v n18 lt hv => ?_
        have h1 := Dp.up n18.b h1
        walk_at "sx"
        walk_at "st"
        walk_at "sx"
        refine lt.ix hv fun w dw => ?_
        walk_at "sx"
        refine lt.bad hz0 h6 fun B19 H19 bv bd n19 lt dbv nob szb => ?_
        have h1 := Dp.up n19.b h1
        walk_at "sx"
        refine lt.with (by omega) (Dp.up n19.b dw) dbv (ways_at hv) fun B20 H20 r20 n20 lt dr => ?_
        have h1 := Dp.up n20.b h1
        walk_at "sx"
        walk_at "st"
        walk_at "sx"
        refine lt.ty ?_
        walk_at "sx"
        refine lt.ask dr (by have := pat_sz p; have := ex_sz (x := bd) (ways_at hv);  omega) (by have := scan_ex (ls := z :: zs) (x := bd) (k := 0) (fun r n => .bad r n nob) (ways_at hv) okp [] 0; rwa [Nat.zero_add, Nat.add_zero] at this) fun B21 H21 r21 n21 lt d21 => ?_
        have h1 := Dp.up n21.b h1
        walk_at "sx"
        refine sx_newT (K := K) lt.e (.cons d21 (.cons (.int _) .nil)) (by simp) fun p22 B22 H22 _ n22 d22 => ?_
        have h1 := Dp.up n22.b h1
        walk_at "sx"
        refine (lt.up0 n22).add (by omega) (pair_of d22 rfl) fun H23 n23 lt => ?_
        exact ⟨B22, _, _, _, _, _, rfl, lt, h1⟩
      · clear lt h1B
        obtain ⟨B17, y9, y10, y11, y12, y13, rfl, lt, h1⟩ := q
        walk_at "sx"
        refine lt.wl fun m em => ?_
        walk_at "sx"
        refine lt.way (by omega) em fun B18 H18 j v n18 lt hv => ?_
        have h1 := Dp.up n18.b h1
        walk_at "sx"
        walk_at "st"
        walk_at "sx"
        refine lt.ix hv fun w dw => ?_
        walk_at "sx"
        refine lt.bad hz0 h6 fun B19 H19 bv bd n19 lt dbv nob szb => ?_
        have h1 := Dp.up n19.b h1
        walk_at "sx"
        refine sx_newT (K := K) lt.e (.cons (.str "not") (.cons dbv .nil)) (by simp) fun p30 B30 H30 _ n30 d30 => ?_
        have h1 := Dp.up n30.b h1
        have lt := lt.up0 n30
        walk_at "sx"
        refine lt.bad hz0 h6 fun B31 H31 bw be n31 lt dbw nobw szw => ?_
        have h1 := Dp.up n31.b h1
        walk_at "sx"
        refine sx_newT (K := K) lt.e (.cons (.str "and") (.cons (Dp.up n31.b d30) (.cons dbw .nil))) (by simp) fun p32 B32 H32 _ n32 d32 => ?_
        have h1 := Dp.up n32.b h1
        have lt := lt.up0 n32
        have dw32 := Dp.up (n19.b.trans (n30.b.trans (n31.b.trans n32.b))) dw
        walk_at "sx"
        refine lt.with (by omega) dw32 d32 (ways_at hv) fun B20 H20 r20 n20 lt dr => ?_
        have h1 := Dp.up n20.b h1
        have dw20 := Dp.up n20.b dw32
        walk_at "sx"
        walk_at "st"
        walk_at "sx"
        refine lt.ty ?_
        walk_at "sx"
        refine lt.ask dr (by have := pat_sz p; have := ex_sz (x := .tuple [.str "and", .tuple [.str "not", bd], be]) (ways_at hv); simp only [szD, szDs] at this; omega) (by have := scan_ex (ls := z :: zs) (x := .tuple [.str "and", .tuple [.str "not", bd], be]) (k := 2) (fun r n => .good (pt_two (by decide +kernel)) (.good (pt_one (by decide +kernel)) (.bad _ _ nob))) (ways_at hv) okp [] 0; rwa [Nat.zero_add] at this) fun B21 H21 r21 n21 lt d21 => ?_
        have h1 := Dp.up n21.b h1
        walk_at "sx"
        refine sx_newT (K := K) lt.e (.cons d21 (.cons (.int _) .nil)) (by simp) fun p22 B22 H22 _ n22 d22 => ?_
        have h1 := Dp.up n22.b h1
        have dw22 := Dp.up (n21.b.trans n22.b) dw20
        walk_at "sx"
        refine (lt.up0 n22).add (by omega) (pair_of d22 rfl) fun H23 n23 lt => ?_
        walk_at "sx"
        refine lt.ix hv fun w2 dw2 => ?_
        walk_at "sx"
        clear dw22 d22 n22 d21 n21 dw20 dr n20 dw32 d32 n32 szw nobw dbw n31 d30 n30 szb nob dbv n19 dw n18
        refine lt.bad hz0 h6 fun B19 H19 bv bf n19 lt dbv nob szb => ?_
        have h1 := Dp.up n19.b h1
        walk_at "sx"
        refine sx_newT (K := K) lt.e (.cons (.str "many") (.cons dbv .nil)) (by simp) fun p30 B30 H30 _ n30 d30 => ?_
        have h1 := Dp.up n30.b h1
        have lt := lt.up0 n30
        walk_at "sx"
        refine sx_newT (K := K) lt.e (.cons (.str "or") (.cons h1 (.cons d30 .nil))) (by simp) fun p32 B32 H32 _ n32 d32 => ?_
        have h1 := Dp.up n32.b h1
        have lt := lt.up0 n32
        have dw32 := Dp.up (n19.b.trans (n30.b.trans n32.b)) dw2
        walk_at "sx"
        refine lt.with (by omega) dw32 d32 (ways_at hv) fun B20 H20 r20 n20 lt dr => ?_
        walk_at "sx"
        walk_at "st"
        walk_at "sx"
        refine lt.ty ?_
        walk_at "sx"
        refine lt.ask dr (by have := pat_sz p; have := ex_sz (x := .tuple [.str "or", .tuple [.str "letter", .str z], .tuple [.str "many", bf]]) (ways_at hv); simp only [szD, szDs] at this; omega) (by have := scan_ex (ls := z :: zs) (x := .tuple [.str "or", .tuple [.str "letter", .str z], .tuple [.str "many", bf]]) (k := 3) (fun r n => .good (pt_two (by decide +kernel)) (.good (ps := []) ((pt_letter).trans (if_pos (decide_eq_true hz0))) (.good (pt_one (by decide +kernel)) (.bad _ _ nob)))) (ways_at hv) okp [] 0; rwa [Nat.zero_add] at this) fun B21 H21 r21 n21 lt d21 => ?_
        walk_at "sx"
        refine sx_newT (K := K) lt.e (.cons d21 (.cons (.int _) .nil)) (by simp) fun p22 B22 H22 _ n22 d22 => ?_
        walk_at "sx"
        refine (lt.up0 n22).add (by omega) (pair_of d22 rfl) fun H23 n23 lt => ?_
        obtain ⟨ys, y1, y2, y3⟩ := lt.xs
        exact ⟨B22, ys, _, _, _, _, _, _, _, _, _, _, _, rfl, lt.e, lt.D, y1, y2, by omega⟩
    · obtain ⟨B3, xs, y3, y4, y5, y6, y7, y8, y9, y10, y11, y12, y13, rfl, e3, D3, m3, p3, l3⟩ := p
      walk_at "sx"
      have scA : ∀ {ls : List Str} {i : Nat}, Scan ls [.tuple [.str "letter", .str "b"], .none] 1 (some i) → Scan ls [.tuple [.str "or", .tuple [.str "letter", .str "b"], .none]] 0 (some i) := fun h => .good (pt_two (by decide +kernel)) h
      refine sx_tupD (K := K) (B := B3) (ds := [.str "a"]) (by walk_at "dv") e3 (by simp) fun v4 B4 H4 n4 d4 => ?_
      walk_at "sx"
      refine sx_tupD (K := K) (B := B4) (ds := [.str "or", .tuple [.str "letter", .str "b"], .none]) (by walk_at "dv") n4.h (by simp) fun v5 B5 H5 n5 d5 => ?_
      walk_at "sx"
      obtain ⟨a4, x4, rfl, s4, q4⟩ := Dp.tup_v (Dp.up n5.b d4)
      have e4 := strs_of (ss := ["a"]) q4
      subst e4
      refine ⟨B5, a4, ["a"], v5, _, some 1, false, rfl, n5.h, s4, d5, (by simp only [szD, szDs]; omega), scA (.bad _ _ (no_let (no_ltr (by decide +kernel)))), fun B6 H6 v6 n6 d6 => ?_⟩
      walk_at "sx"
      refine sx_newT (K := K) n6.h (.cons d6 (.cons (.int 1) .nil)) (by simp) fun p7 B7 H7 _ n7 d7 => ?_
      walk_at "sx"
      refine sx_tupD (K := K) (B := B7) (ds := [.str "a", .str "b"]) (by walk_at "dv") n7.h (by simp) fun v8 B8 H8 n8 d8 => ?_
      walk_at "sx"
      refine sx_tupD (K := K) (B := B8) (ds := [.str "or", .tuple [.str "letter", .str "b"], .none]) (by walk_at "dv") n8.h (by simp) fun v9 B9 H9 n9 d9 => ?_
      walk_at "sx"
      obtain ⟨a8, x8, rfl, s8, q8⟩ := Dp.tup_v (Dp.up n9.b d8)
      have e8 := strs_of (ss := ["a", "b"]) q8
      subst e8
      refine ⟨B9, a8, ["a", "b"], v9, _, some 2, false, rfl, n9.h, s8, d9, (by simp only [szD, szDs]; omega), scA (.good (ps := []) ((pt_letter).trans (if_pos (by decide +kernel))) (.bad _ _ rfl)), fun B10 H10 v10 n10 d10 => ?_⟩
      walk_at "sx"
      refine sx_newT (K := K) n10.h (.cons d10 (.cons (.int 2) .nil)) (by simp) fun p11 B11 H11 _ n11 d11 => ?_
      walk_at "sx"
      refine sx_newM n11.h (by simp) fun p12 H12 _ n12 m12 => ?_
      have n312 := ((((((((n4.tr n5).tr n6).tr n7).tr n8).tr n9).tr n10).tr n11).tr n12)
      walk_at "sx"
      refine sx_cat n12.h (m3.up n312).h m12.h (by simp; omega) fun p13 H13 _ n13 m13 => ?_
      walk_at "sx"
      refine ⟨B11, p13, _, rfl, n13.h, m13.sq, by simp; omega, fun x hx => ?_, fun H' => ?_⟩
      · rcases List.mem_append.mp hx with y | y
        · exact (p3 x y).up n312.b
        · simp only [List.mem_cons, List.not_mem_nil, or_false] at y
          rcases y with rfl | rfl
          · exact (pair_of d7 rfl).up (((n8.tr n9).tr n10).tr n11).b
          · exact pair_of d11 rfl
      · exact k H'
end
end C
namespace G
open PySem PySem.Spec PyProof.Rows L2
section
variable {K : PySem.W.Frag} {h : Heap} {mg : Str → Option Value}
/-- a def of the top as the head has it -/
theorem df_mk {x : Str} {st : Stmt} {f : Addr} {oc : Value} {od an : Option Addr} {osl : Array (Option Value)} {kV doc pm cdv ct : Value} (X : K.In h) (G : h.Ns mainGlobals mg) (a : PySem.W.nsIn K mainGlobals x = some (some (.ref f)))
    (l : K.lookup f = some ⟨oc, od, .func (PySem.W.fnOf x x (defArgs st) (defBody st) (defScope st) .none kV doc pm an cdv ct), osl⟩) (c : PySem.W.codeIn K cdv x = true) (k : PySem.W.keepIn K (.ref f) = true) : Df K mg x st :=
  ⟨f, _, fun_mk l c k, PySem.W.mg_of X G a⟩
theorem gs_mk {x z : Str} {t : Tok} (X : K.In h) (G : h.Ns mainGlobals mg) (a : PySem.W.nsIn K mainGlobals x = some (some (.str z t))) : ∃ t, mg x = some (.str z t) := ⟨t, PySem.W.mg_of X G a⟩
theorem gi_mk {x : Str} {z : Int} {t : Tok} (X : K.In h) (G : h.Ns mainGlobals mg) (a : PySem.W.nsIn K mainGlobals x = some (some (.int z t))) : ∃ t, mg x = some (.int z t) := ⟨t, PySem.W.mg_of X G a⟩
theorem gt_mk {x : Str} {a : Addr} {xs : List V} {dd : Option Addr} {its : List Value} {n : Nat} {sl : Array (Option Value)} (X : K.In h) (G : h.Ns mainGlobals mg) (e : PySem.W.nsIn K mainGlobals x = some (some (.ref a)))
    (l : K.lookup a = some ⟨.type "tuple", dd, .seq its.toArray n, sl⟩) (hv : Vals xs its) (hz : its.length ≤ 1000) : ∃ a, mg x = some (.ref a) ∧ ∀ H', SqT K H' a xs :=
  ⟨a, PySem.W.mg_of X G e, fun H' => .inr ⟨_, its.toArray, n, l, rfl, rfl, Nat.le_trans (by simpa using hz) (by decide : 1000 ≤ sizeLine), by simpa using hv⟩⟩
/-- a dict of the top, texts to defs -/
theorem kf_mk {w : World} {k x : Str} {a f : Addr} {es : List DictEntry} {n : Nat} (X : K.In h) (G : h.Ns mainGlobals mg) (l : K.lookup a = some ⟨.type "dict", none, .dict es.toArray n, #[]⟩) (hk : PySem.W.KeysLit w.params es)
    (e : PySem.W.nsIn K a k = some (some (.ref f))) (g : PySem.W.nsIn K mainGlobals x = some (some (.ref f))) : KFn K w mg a k x := ⟨f, PySem.W.mg_of X G g, es.toArray, n, .ref f, l, hk, e, rfl⟩
theorem kf_nil {w : World} {a : Addr} : ∀ q ∈ ([] : List (Str × Str)), KFn K w mg a q.1 q.2 := fun _ h => nomatch h
theorem kf_cons {w : World} {a : Addr} {k x : Str} {r : List (Str × Str)} (h : KFn K w mg a k x) (t : ∀ q ∈ r, KFn K w mg a q.1 q.2) : ∀ q ∈ (k, x) :: r, KFn K w mg a q.1 q.2 := fun q hq => by
  rcases List.mem_cons.mp hq with z | z
  · rw [z]; exact h
  · exact t q z
theorem gd_mk {w : World} {x : Str} {a : Addr} {ps : List (Str × Str)} (X : K.In h) (G : h.Ns mainGlobals mg) (e : PySem.W.nsIn K mainGlobals x = some (some (.ref a))) (t : ∀ q ∈ ps, KFn K w mg a q.1 q.2) : ∃ a, mg x = some (.ref a) ∧ ∀ q ∈ ps, KFn K w mg a q.1 q.2 := ⟨a, PySem.W.mg_of X G e, t⟩
/-- the law's own def -/
theorem law_mk {P : Program} {w : World} {st : Stmt} {k : Nat} {sp : Sp} {fa : Addr} (D : Df K mg "law" st) (hfa : mg "law" = some (.ref fa))
    (hb : ∀ (kV doc pm : Value) (an : Option Addr) (cdv ct : Value) (u : Value), bindArgs (PySem.W.fnOf "law" "law" (defArgs st) (defBody st) (defScope st) .none kV doc pm an cdv ct) ⟨[u], []⟩ = pure [(("script" : Str), u)])
    (H : ∀ base : Heap, Has P w K mg base "law" st k ["script"] sp) : ∃ fd : FuncData, (∀ (s : Shared) (v : Value), BindsTo s fd ⟨[v], []⟩ [("script", v)]) ∧ ∀ base : Heap, K.In base → base.Ns mainGlobals mg → FnOk P w K mg base CX0 k fa fd ["script"] sp := by
  obtain ⟨f, fd, F, m⟩ := D
  rw [hfa] at m
  have e : fa = f := by injection m with m; injection m
  subst e
  refine ⟨fd, fun s v => ?_, fun base _ _ => ?_⟩
  · obtain ⟨oc, od, kV, doc, pm, an, cdv, ct, osl, rfl, lk, hcd⟩ := F.ex
    exact .of_eq (hb _ _ _ _ _ _ _)
  · obtain ⟨f2, fd2, F2, m2, n2, _⟩ := (H base).ex
    rw [hfa] at m2
    have e2 : fa = f2 := by injection m2 with m2; injection m2
    subst e2
    obtain ⟨_, _, _, _, _, _, _, _, _, e3, lk, _⟩ := F.ex
    obtain ⟨_, _, _, _, _, _, _, _, _, e4, lk2, _⟩ := n2.ex
    rw [lk] at lk2
    have : fd = fd2 := by injection lk2 with z; injection z with _ _ z _; injection z
    rw [this]
    exact F2
end
end G
namespace C
open PySem L2 G
theorem law_end {P : Program} {w : World} {K : PySem.W.Frag} {mg : Str → Option Value} {fa : Addr} (hfa : mg "law" = some (.ref fa)) (T : Txt w K mg) : ∃ fd : FuncData, (∀ (s : Shared) (v : Value), BindsTo s fd ⟨[v], []⟩ [("script", v)]) ∧ ∀ base : Heap, K.In base → base.Ns mainGlobals mg → FnOk P w K mg base CX0 11 fa fd ["script"] (spLaw K) := law_mk T.d_law hfa (fun _ _ _ _ _ _ _ => rfl) (fun base => ok_law T)
end C
open PySem PySem.W PyProof.Rows
set_option maxRecDepth 100000 in
set_option maxHeartbeats 0 in
theorem PySem.Challenge.cw_typedback_k20_patterns_are_let_or_refuse_holds : PySem.Challenge.rw_typedback_k20_patterns_are_let_or_refuse.Holds := by
  w_on; o_law; k_head; (case hw => w_witness2)
  k_fill
  refine L2.walk_of (l := PySem.Challenge.rw_typedback_k20_patterns_are_let_or_refuse) (n := 63) (k := 11) (x := "script") (CX := fun _ => L2.CX0) (sp := fun w => C.spLaw _) rfl (by decide) rfl ⟨rfl, by decide, by decide⟩ (fun w h Y => PySem.W.kIn_of Y) ?F (fun _ _ a ns hl _ hS => ⟨a, ns, rfl, hS, hl, fun _ => rfl⟩) (fun _ _ _ _ _ h => h)
  case F =>
    intro w mg fa h KX GM hmg
    refine' C.law_end hmg ?T
    case T =>
      constructor
      · refine' G.df_mk KX GM ?a ?l ?c ?k; (case a => k_is); (case l => k_is); (case c => k_is); (case k => k_is)
      · refine' G.df_mk KX GM ?a ?l ?c ?k; (case a => k_is); (case l => k_is); (case c => k_is); (case k => k_is)
      · refine' G.df_mk KX GM ?a ?l ?c ?k; (case a => k_is); (case l => k_is); (case c => k_is); (case k => k_is)
      · refine' G.df_mk KX GM ?a ?l ?c ?k; (case a => k_is); (case l => k_is); (case c => k_is); (case k => k_is)
      · refine' G.df_mk KX GM ?a ?l ?c ?k; (case a => k_is); (case l => k_is); (case c => k_is); (case k => k_is)
      · refine' G.df_mk KX GM ?a ?l ?c ?k; (case a => k_is); (case l => k_is); (case c => k_is); (case k => k_is)
      · refine' G.df_mk KX GM ?a ?l ?c ?k; (case a => k_is); (case l => k_is); (case c => k_is); (case k => k_is)
      · refine' G.df_mk KX GM ?a ?l ?c ?k; (case a => k_is); (case l => k_is); (case c => k_is); (case k => k_is)
      · refine' G.df_mk KX GM ?a ?l ?c ?k; (case a => k_is); (case l => k_is); (case c => k_is); (case k => k_is)
      · refine' G.df_mk KX GM ?a ?l ?c ?k; (case a => k_is); (case l => k_is); (case c => k_is); (case k => k_is)
      · refine' G.df_mk KX GM ?a ?l ?c ?k; (case a => k_is); (case l => k_is); (case c => k_is); (case k => k_is)
      · refine' G.df_mk KX GM ?a ?l ?c ?k; (case a => k_is); (case l => k_is); (case c => k_is); (case k => k_is)
      · refine' G.df_mk KX GM ?a ?l ?c ?k; (case a => k_is); (case l => k_is); (case c => k_is); (case k => k_is)
      · refine' G.df_mk KX GM ?a ?l ?c ?k; (case a => k_is); (case l => k_is); (case c => k_is); (case k => k_is)
      · refine' G.df_mk KX GM ?a ?l ?c ?k; (case a => k_is); (case l => k_is); (case c => k_is); (case k => k_is)
      · refine' G.df_mk KX GM ?a ?l ?c ?k; (case a => k_is); (case l => k_is); (case c => k_is); (case k => k_is)
      · refine' G.df_mk KX GM ?a ?l ?c ?k; (case a => k_is); (case l => k_is); (case c => k_is); (case k => k_is)
      · refine' G.df_mk KX GM ?a ?l ?c ?k; (case a => k_is); (case l => k_is); (case c => k_is); (case k => k_is)
      · exact PySem.W.mg_none_of KX GM (by k_is)
      · exact PySem.W.mg_none_of KX GM (by k_is)
      · exact PySem.W.mg_none_of KX GM (by k_is)
      · exact PySem.W.mg_none_of KX GM (by k_is)
      · exact PySem.W.mg_none_of KX GM (by k_is)
      · exact PySem.W.mg_none_of KX GM (by k_is)
      · exact PySem.W.mg_none_of KX GM (by k_is)
      · exact PySem.W.mg_none_of KX GM (by k_is)
      · exact PySem.W.mg_none_of KX GM (by k_is)
      · exact PySem.W.mg_none_of KX GM (by k_is)
      · exact PySem.W.mg_none_of KX GM (by k_is)
      · refine' G.gs_mk KX GM ?a; (case a => k_is)
      · refine' G.gt_mk KX GM ?a ?l ?v ?z; (case a => k_is); (case l => k_is); (case v => exact (.cons ⟨_, rfl⟩ (.cons ⟨_, rfl⟩ (.cons ⟨_, rfl⟩ .nil)))); (case z => decide)
      · refine' G.gt_mk KX GM ?a ?l ?v ?z; (case a => k_is); (case l => k_is); (case v => exact (.cons ⟨_, rfl⟩ (.cons ⟨_, rfl⟩ .nil))); (case z => decide)
      · refine' G.gt_mk KX GM ?a ?l ?v ?z; (case a => k_is); (case l => k_is); (case v => exact (.cons ⟨_, rfl⟩ (.cons ⟨_, rfl⟩ (.cons ⟨_, rfl⟩ .nil)))); (case z => decide)
      · refine' G.err1_mk (st := G.clsMeth (C.top 2) 0) (G.err_mk KX GM ?aC ?xL ?sa ?ga ?gg ?nb ?a1 ?t1 ?kC ?eC ?tC ?hC ?iC ?sC) ?ht ?l1 ?c1
        (case aC => k_is); (case xL => k_is); (case sa => k_is); (case ga => k_is); (case gg => k_is)
        case nb => (refine List.forall_mem_cons.mpr ⟨by k_is, ?_⟩;  intro y hy; cases hy)
        (case a1 => k_is); (case t1 => k_is); (case kC => k_is); (case eC => k_is); (case tC => k_is); (case hC => k_is); (case iC => k_is); (case sC => first | rfl | k_is)
        (case ht => exact ⟨_, _, _, _, _, _, rfl, rfl, rfl⟩); (case l1 => k_is); (case c1 => k_is)
