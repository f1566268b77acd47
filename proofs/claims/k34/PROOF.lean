import PyProof.Rows.All
import Wide.All
import OpenK.AllK
import Wide.FinOn
import HandS.ForMost
import HandS.IsInst
import HandS.Style
import HandS.Wide
import HandS.More
import HandS.CallLocal
import KE.KDictPairs
import HandS.Iter
import HandS.Exc
import HandS.ExcOwn
import HandS.ExcField
import HandS.TryMany
import HandS.WordsExc
import HandS.ExcInit
import HandS.Ends
import PyProof.Rows.StrMul
import HandS.Conv
import HandS.SetFor
import PySem.Challenge.RW_typedback_k34_runs_with_marks
set_option Elab.async false
set_option linter.all false
set_option maxRecDepth 100000
set_option maxHeartbeats 4000000
/-! GL: our own layer over the hand layer: defs by name, data that stays, rules that lack, short readings. -/
namespace G
open PySem PySem.Spec PyProof.Rows L2

/-! ### defs by name -/
/-- where a def of the text stands -/
def Df (K : PySem.W.Frag) (mg : Str → Option Value) (x : Str) (st : Stmt) : Prop := ∃ f fd, Fun K x x st f fd ∧ mg x = some (.ref f)
/-- a def that keeps a promise, called by its name -/
structure Has (P : Program) (w : World) (K : PySem.W.Frag) (mg : Str → Option Value) (base : Heap) (x : Str) (st : Stmt) (k : Nat) (ps : List Str) (sp : Sp) : Prop where
  ex : ∃ f fd, FnOk P w K mg base CX0 k f fd ps sp ∧ mg x = some (.ref f) ∧ Fun K x x st f fd ∧ Binds K fd ps []
section
variable {P : Program} {w : World} {K : PySem.W.Frag} {mg : Str → Option Value} {base : Heap}
theorem has_mk {x : Str} {st : Stmt} {N ps : List Str} {k : Nat} {sp : Sp} (D : Df K mg x st) (S : FnScope N ps (defScope st))
    (hb : ∀ (kV doc pm : Value) (an : Option Addr) (cdv ct : Value) (us : List Value), us.length = ps.length → bindArgs (PySem.W.fnOf x x (defArgs st) (defBody st) (defScope st) .none kV doc pm an cdv ct) ⟨us, []⟩ = pure (ps.zip us))
    (len : ∀ vs H Q E, sp vs H Q E → vs.length = ps.length)
    (hbody : ∀ (f : Addr) (cdv : Value) (A : Around) (outer : List Env) (s : Shared) (H : Hp) (vs : List V) (Q : VK) (E : XK), Room k (A.deeper (envOfC x (defScope st) s.heap.objs.size f cdv)) → sp vs H Q E →
      ∃ t, PSs (cxOf CX0 P w K mg base N x (defScope st) f cdv A outer s H E).nox (defBody st) t ∧ t { nx := fun _ H' => Q .non H', rt := Q } (start N vs) H) : Has P w K mg base x st (k + 1) ps sp := by
  obtain ⟨f, fd, F, m⟩ := D
  exact ⟨f, fd, F.ok S len (hbody f), m, F, F.binds hb⟩
theorem Has.mono {x : Str} {st : Stmt} {j k : Nat} {ps : List Str} {sp : Sp} (h : Has P w K mg base x st j ps sp) (hk : j ≤ k) : Has P w K mg base x st k ps sp := by
  obtain ⟨f, fd, F, m, b⟩ := h
  exact ⟨f, fd, F.mono hk, m, b⟩
/-- a weaker promise -/
theorem Has.imp {x : Str} {st : Stmt} {k : Nat} {ps : List Str} {sp sp' : Sp} (h : Has P w K mg base x st k ps sp) (hi : ∀ vs H Q E, sp' vs H Q E → sp vs H Q E) : Has P w K mg base x st k ps sp' := by
  obtain ⟨f, fd, F, m, b⟩ := h
  exact ⟨f, fd, F.imp hi, m, b⟩
end
section
variable {X : Cx} {x : Str} {st : Stmt} {k j : Nat} {ps : List Str} {sp : Sp} {p pos : Pos} {e : Expr} {es : List Expr} {t : TA}
theorem pe_callH (F : Has X.prog X.w X.K X.mg X.base x st k ps sp) (hr : Room j X.A) (hg : Gl X x) (ha : PA X (e :: es) t) (hk : k ≤ j := by decide)
    (hdb : (x == ("__debug__" : Str)) = false := by decide) (he : starEach (e :: es) X.env = (false, eval e X.env) :: starEach es X.env := by rfl) (hpl : (backTo pos (starEach es X.env)).any (·.1) = false := by rfl) :
    PE X (.Call (.Name x p) (e :: es) [] pos) (tCall sp [] E0 t) := by
  obtain ⟨f, fd, F, m, fn, b⟩ := F
  exact pe_call F (hr.mono hk) hg m fn.kp b .nil pass0 ha hdb he hpl
theorem pe_call0H (F : Has X.prog X.w X.K X.mg X.base x st k ps sp) (hr : Room j X.A) (hg : Gl X x) (hk : k ≤ j := by decide)
    (hdb : (x == ("__debug__" : Str)) = false := by decide) : PE X (.Call (.Name x p) [] [] pos) (tCall sp [] E0 tNil) := by
  obtain ⟨f, fd, F, m, fn, b⟩ := F
  exact pe_call0 F (hr.mono hk) hg m fn.kp b .nil pass0 hdb
end

/-! ### names of the module -/
section
variable {X : Cx} {x : Str} {pos : Pos}
theorem pe_gS {z : Str} (hg : Gl X x) (g : ∃ t, X.mg x = some (.str z t)) (hd : (x == ("__debug__" : Str)) = false := by decide) : PE X (.Name x pos) (tC (.str z)) := by
  obtain ⟨t, g⟩ := g
  exact pe_glob hg g ⟨t, rfl⟩ hd
theorem pe_gI {z : Int} (hg : Gl X x) (g : ∃ t, X.mg x = some (.int z t)) (hd : (x == ("__debug__" : Str)) = false := by decide) : PE X (.Name x pos) (tC (.int z)) := by
  obtain ⟨t, g⟩ := g
  exact pe_glob hg g ⟨t, rfl⟩ hd
/-- a tuple of the module's top -/
def tGT (K : PySem.W.Frag) (xs : List V) : TE := fun _ H Q => ∀ a, (∀ H', SqT K H' a xs) → Q (.ref a) H
theorem pe_gR {xs : List V} (hg : Gl X x) (g : ∃ a, X.mg x = some (.ref a) ∧ ∀ H', SqT X.K H' a xs) (hd : (x == ("__debug__" : Str)) = false := by decide) : PE X (.Name x pos) (tGT X.K xs) := by
  obtain ⟨a, g, h⟩ := g
  refine ⟨fun pins s σ H Q I q => ld_glob I hg g ⟨.ref a, H, I, rfl, q a h⟩ hd⟩
theorem pe_bT {n : String} (hg : Gl X x) (hm : X.mg x = none) (hv : bootBuiltins x = some (.type n)) (hn : x ≠ "__name__" := by decide) (hd : (x == ("__debug__" : Str)) = false := by decide) : PE X (.Name x pos) (tC (.ty n)) :=
  pe_bltn hg hm hv rfl hn hd
end

/-! ### rules that lack -/
section
variable {X : Cx}
/-- x is True, x is False, whatever x is -/
def rIsBV : R2 := fun x y H Q => ∃ b : Bool, y = .bl b ∧ Q (.bl (decide (x = .bl b))) H
theorem plain_bool {x : V} {v : Value} {b : Bool} (r : RelV x v) : plainIs v (.bool b) = true ∧ (v == Value.bool b) = decide (x = .bl b) := by
  cases x with
  | non => cases (show v = Value.none from r); exact ⟨rfl, (decide_eq_false (fun h => nomatch h)).symm⟩
  | bl c =>
    cases (show v = Value.bool c from r)
    refine ⟨rfl, ?_⟩
    cases b <;> cases c <;> rfl
  | int _ => obtain ⟨t, rfl⟩ := r; exact ⟨rfl, (decide_eq_false (fun h => nomatch h)).symm⟩
  | str _ => obtain ⟨t, rfl⟩ := r; exact ⟨rfl, (decide_eq_false (fun h => nomatch h)).symm⟩
  | byt _ => obtain ⟨t, rfl⟩ := r; exact ⟨rfl, (decide_eq_false (fun h => nomatch h)).symm⟩
  | flt _ => obtain ⟨t, rfl⟩ := r; exact ⟨rfl, (decide_eq_false (fun h => nomatch h)).symm⟩
  | ref _ => cases r; exact ⟨rfl, (decide_eq_false (fun h => nomatch h)).symm⟩
  | ty _ => cases r; exact ⟨rfl, (decide_eq_false (fun h => nomatch h)).symm⟩
theorem op_isBV : OpR X (compareOp .Is) rIsBV := by
  intro pins s σ H x y v u Q I rx ry h
  obtain ⟨b, rfl, q⟩ := h
  cases (show u = Value.bool b from ry)
  obtain ⟨p1, p2⟩ := plain_bool (b := b) rx
  exact wpAny_is_plain p1 ⟨.bl _, H, I, by rw [p2]; rfl, q⟩

/-- == and != of a list or a tuple with an empty one -/
def rEqE (K : PySem.W.Frag) (neg : Bool) : R2 := fun x y H Q => ∃ a b xs, x = .ref a ∧ y = .ref b ∧ ((SqL K H a xs ∧ SqL K H b []) ∨ (SqT K H a xs ∧ SqT K H b [])) ∧ Q (.bl (if neg then !xs.isEmpty else xs.isEmpty)) H
end

/-! ### the frozen part of the heap -/
def Ex (H H' : Hp) : Prop := ∀ a o, H a = some o → H' a = some o
theorem Ex.refl (H : Hp) : Ex H H := fun _ _ h => h
theorem Ex.trans {H H1 H2 : Hp} (a : Ex H H1) (b : Ex H1 H2) : Ex H H2 := fun x o h => b x o (a x o h)
theorem Ex.new {H : Hp} {p : Addr} {o : HO} (h : H p = none) : Ex H (upd H p o) := fun a u e => by
  rw [upd_ne (ne_of_none e h)]
  exact e
theorem Ex.free {H H' : Hp} {p : Addr} (e : Ex H H') (h : H' p = none) : H p = none := by
  cases q : H p with
  | none => rfl
  | some o =>
    rw [e p o q] at h
    cases h
theorem Ex.rd {H H' : Hp} {a : Addr} {u : HO} (e : Ex H H') (h : Rd H a u) : Rd H' a u := by
  rcases h with h | ⟨o, h⟩
  · exact Or.inl (e a _ h)
  · exact Or.inr ⟨o, e a _ h⟩
theorem Ex.l {K : PySem.W.Frag} {H H' : Hp} {a : Addr} {xs : List V} (e : Ex H H') (h : SqL K H a xs) : SqL K H' a xs := by
  rcases h with h | h
  · exact Or.inl (e.rd h)
  · exact Or.inr h
theorem Ex.t {K : PySem.W.Frag} {H H' : Hp} {a : Addr} {xs : List V} (e : Ex H H') (h : SqT K H a xs) : SqT K H' a xs := by
  rcases h with h | h
  · exact Or.inl (e.rd h)
  · exact Or.inr h
theorem Ex.mut {B H : Hp} {l : Addr} {o : HO} (e : Ex B H) (h : B l = none) : Ex B (upd H l o) := fun a u ha => by
  rw [upd_ne (ne_of_none ha h)]
  exact e a u ha

section
variable {K : PySem.W.Frag} {B B' H H' : Hp}
mutual
theorem Dp.up (e : Ex B B') : ∀ {d : PyData} {v : V}, Dp K B v d → Dp K B' v d
  | .none, _, h => by cases h; exact .non
  | .bool _, _, h => by cases h; exact .bl _
  | .int _, _, h => by cases h; exact .int _
  | .str _, _, h => by cases h; exact .str _
  | .list ds, _, h => by
    cases h with
    | lst hs ha => exact .lst (e.l hs) (Dps.up e ha)
  | .tuple ds, _, h => by
    cases h with
    | tup hs ha => exact .tup (e.t hs) (Dps.up e ha)
  | .dict _, _, h => by cases h
theorem Dps.up (e : Ex B B') : ∀ {ds : List PyData} {vs : List V}, DpAll K B vs ds → DpAll K B' vs ds
  | [], _, h => by cases h; exact .nil
  | _ :: _, _, h => by
    cases h with
    | cons h1 h2 => exact .cons (Dp.up e h1) (Dps.up e h2)
end
theorem Dps.len : ∀ {ds : List PyData} {vs : List V}, DpAll K B vs ds → vs.length = ds.length
  | [], _, h => by cases h; rfl
  | _ :: _, _, h => by
    cases h with
    | cons h1 h2 => rw [List.length_cons, List.length_cons, Dps.len h2]
theorem Dps.get : ∀ {ds : List PyData} {vs : List V} {i : Nat} {d : PyData}, DpAll K B vs ds → ds[i]? = some d → ∃ v, vs[i]? = some v ∧ Dp K B v d
  | [], _, _, _, _, e => by simp at e
  | _ :: _, _, i, _, h, e => by
    cases h with
    | cons h1 h2 =>
      cases i with
      | zero => exact ⟨_, rfl, by rw [← Option.some.inj e]; exact h1⟩
      | succ i => exact Dps.get (i := i) h2 e
theorem Dps.got : ∀ {ds : List PyData} {vs : List V} {i : Nat} {v : V}, DpAll K B vs ds → vs[i]? = some v → ∃ d, ds[i]? = some d ∧ Dp K B v d
  | [], _, _, _, h, e => by cases h; simp at e
  | _ :: _, _, i, _, h, e => by
    cases h with
    | cons h1 h2 =>
      cases i with
      | zero => exact ⟨_, rfl, by rw [← Option.some.inj e]; exact h1⟩
      | succ i => exact Dps.got (i := i) h2 e
theorem Dps.app : ∀ {ds es : List PyData} {vs us : List V}, DpAll K B vs ds → DpAll K B us es → DpAll K B (vs ++ us) (ds ++ es)
  | [], _, _, _, h, k => by cases h; exact k
  | _ :: _, _, _, _, h, k => by
    cases h with
    | cons h1 h2 => exact .cons h1 (Dps.app h2 k)
theorem Dps.one {v : V} {d : PyData} (h : Dp K B v d) : DpAll K B [v] [d] := .cons h .nil
theorem Dps.rev : ∀ {ds : List PyData} {vs : List V}, DpAll K B vs ds → DpAll K B vs.reverse ds.reverse
  | [], _, h => by cases h; exact .nil
  | _ :: _, _, h => by
    cases h with
    | cons h1 h2 =>
      rw [List.reverse_cons, List.reverse_cons]
      exact Dps.app (Dps.rev h2) (Dps.one h1)
theorem Dps.take : ∀ (n : Nat) {ds : List PyData} {vs : List V}, DpAll K B vs ds → DpAll K B (vs.take n) (ds.take n)
  | 0, _, _, _ => .nil
  | n + 1, [], _, h => by cases h; exact .nil
  | n + 1, _ :: _, _, h => by
    cases h with
    | cons h1 h2 => exact .cons h1 (Dps.take n h2)
theorem Dps.drop : ∀ (n : Nat) {ds : List PyData} {vs : List V}, DpAll K B vs ds → DpAll K B (vs.drop n) (ds.drop n)
  | 0, _, _, h => h
  | n + 1, [], _, h => by cases h; exact .nil
  | n + 1, _ :: _, _, h => by
    cases h with
    | cons h1 h2 => exact Dps.drop n h2
theorem Dps.init {ds : List PyData} {vs : List V} (h : DpAll K B vs ds) : DpAll K B vs.dropLast ds.dropLast := by
  rw [List.dropLast_eq_take, List.dropLast_eq_take, Dps.len h]
  exact Dps.take _ h
theorem Dps.erase : ∀ {i : Nat} {ds : List PyData} {vs : List V}, DpAll K B vs ds → DpAll K B (vs.eraseIdx i) (ds.eraseIdx i)
  | _, [], _, h => by cases h; exact .nil
  | 0, _ :: _, _, h => by
    cases h with
    | cons h1 h2 => exact h2
  | i + 1, _ :: _, _, h => by
    cases h with
    | cons h1 h2 => exact .cons h1 (Dps.erase h2)
theorem Dps.set : ∀ {i : Nat} {ds : List PyData} {vs : List V} {v : V} {d : PyData}, DpAll K B vs ds → Dp K B v d → DpAll K B (vs.set i v) (ds.set i d)
  | _, [], _, _, _, h, _ => by cases h; exact .nil
  | 0, _ :: _, _, _, _, h, k => by
    cases h with
    | cons h1 h2 => exact .cons k h2
  | i + 1, _ :: _, _, _, _, h, k => by
    cases h with
    | cons h1 h2 => exact .cons h1 (Dps.set h2 k)
/-- the last of a list that isn't empty -/
theorem Dps.last {ds : List PyData} {vs : List V} {d : PyData} (h : DpAll K B vs (ds ++ [d])) : ∃ us v, vs = us ++ [v] ∧ DpAll K B us ds ∧ Dp K B v d := by
  have h1 := Dps.rev h
  rw [List.reverse_append, List.reverse_singleton] at h1
  cases e : vs.reverse with
  | nil => rw [e] at h1; cases h1
  | cons v r =>
    rw [e] at h1
    cases h1 with
    | cons a b =>
      have e2 : vs = r.reverse ++ [v] := by rw [← List.reverse_reverse vs, e, List.reverse_cons]
      refine ⟨r.reverse, v, e2, ?_, a⟩
      have b2 : DpAll K B r ds.reverse := b
      have := Dps.rev b2
      rwa [List.reverse_reverse] at this
theorem Dp.int_v {v : V} {i : Int} (h : Dp K B v (.int i)) : v = .int i := by cases h; rfl
theorem Dp.str_v {v : V} {i : Str} (h : Dp K B v (.str i)) : v = .str i := by cases h; rfl
theorem Dp.bool_v {v : V} {i : Bool} (h : Dp K B v (.bool i)) : v = .bl i := by cases h; rfl
theorem Dp.none_v {v : V} (h : Dp K B v .none) : v = .non := by cases h; rfl
theorem Dp.tup_v {v : V} {ds : List PyData} (h : Dp K B v (.tuple ds)) : ∃ a xs, v = .ref a ∧ SqT K B a xs ∧ DpAll K B xs ds := by
  cases h with
  | tup hs ha => exact ⟨_, _, rfl, hs, ha⟩
theorem Dp.lst_v {v : V} {ds : List PyData} (h : Dp K B v (.list ds)) : ∃ a xs, v = .ref a ∧ SqL K B a xs ∧ DpAll K B xs ds := by
  cases h with
  | lst hs ha => exact ⟨_, _, rfl, hs, ha⟩
/-- the type of data -/
def tyD : PyData → String
  | .none => "NoneType" | .bool _ => "bool" | .int _ => "int" | .str _ => "str" | .list _ => "list" | .tuple _ => "tuple" | .dict _ => "dict"
theorem Dp.ty {v : V} {d : PyData} (h : Dp K B v d) (e : Ex B H) : TyX K H v (.type (tyD d)) := by
  have g := Dp.up e h
  cases g with
  | non => exact .base .non
  | bl b => exact .base (.bl b)
  | int i => exact .base (.int i)
  | str x => exact .base (.str x)
  | lst hs ha =>
    rcases hs with (h1 | ⟨o, h1⟩) | ⟨o, its, n, h1, h2, _⟩
    · exact .base (.lst h1)
    · exact .base (.frz h1)
    · exact .kList h1 h2
  | tup hs ha =>
    rcases hs with (h1 | ⟨o, h1⟩) | ⟨o, its, n, h1, h2, _⟩
    · exact .base (.tup h1)
    · exact .fTuple h1
    · exact .kTuple h1 h2
end

/-! ### a step of the heap: B what is frozen, H all that is tracked; M may be changed -/
structure Nx (M : List Addr) (B H B' H' : Hp) : Prop where
  b : Ex B B'
  h : Ex B' H'
  k : ∀ a o, H a = some o → a ∉ M → H' a = some o
  f : ∀ a, B a = none → H a ≠ none → B' a = none
theorem Nx.refl {M : List Addr} {B H : Hp} (e : Ex B H) : Nx M B H B H := ⟨Ex.refl _, e, fun _ _ h _ => h, fun _ h _ => h⟩
theorem Nx.trans {M : List Addr} {B H B1 H1 B2 H2 : Hp} (m : Nx M B H B1 H1) (n : Nx M B1 H1 B2 H2) (hm : ∀ a ∈ M, H a ≠ none → H1 a ≠ none) : Nx M B H B2 H2 :=
  ⟨m.b.trans n.b, n.h, fun a o h q => n.k a o (m.k a o h q) q, fun a h q => n.f a (m.f a h q) (by
    by_cases z : a ∈ M
    · exact hm a z q
    · intro y
      cases e : H a with
      | none => exact q e
      | some o => rw [m.k a o e z] at y; cases y)⟩
theorem Nx.wk {M M' : List Addr} {B H B' H' : Hp} (n : Nx M B H B' H') (h : ∀ a ∈ M, a ∈ M') : Nx M' B H B' H' := ⟨n.b, n.h, fun a o e q => n.k a o e fun z => q (h a z), n.f⟩
theorem Nx.ex {B H B' H' : Hp} (n : Nx [] B H B' H') : Ex H H' := fun a o h => n.k a o h (by simp)
/-- pure steps -/
theorem Nx.tr {B H B1 H1 B2 H2 : Hp} (m : Nx [] B H B1 H1) (n : Nx [] B1 H1 B2 H2) : Nx [] B H B2 H2 := m.trans n fun a z => absurd z (by simp)
/-- a new object that is frozen -/
theorem Nx.new {M : List Addr} {B H : Hp} {p : Addr} {o : HO} (e : Ex B H) (h : H p = none) : Nx M B H (upd B p o) (upd H p o) :=
  ⟨Ex.new (e.free h), fun a u q => by
    by_cases z : a = p
    · subst z; rw [upd_same] at q ⊢; exact q
    · rw [upd_ne z] at q ⊢; exact e a u q, fun a u q _ => by rw [upd_ne (ne_of_none q h)]; exact q, fun a q r => by
    rw [upd_ne (fun z => r (by rw [z]; exact h))]
    exact q⟩
/-- a new object that may change -/
theorem Nx.own {M : List Addr} {B H : Hp} {p : Addr} {o : HO} (e : Ex B H) (h : H p = none) : Nx M B H B (upd H p o) :=
  ⟨Ex.refl _, e.trans (Ex.new h), fun a u q _ => by rw [upd_ne (ne_of_none q h)]; exact q, fun a q _ => q⟩
/-- a list that may change -/
structure Mu (B H : Hp) (l : Addr) (xs : List V) : Prop where
  b : B l = none
  h : H l = some (.lst xs)
theorem Mu.up {M : List Addr} {B H B' H' : Hp} {l : Addr} {xs : List V} (m : Mu B H l xs) (n : Nx M B H B' H') (h : l ∉ M := by simp) : Mu B' H' l xs := ⟨n.f l m.b (by rw [m.h]; exact fun z => nomatch z), n.k l _ m.h h⟩
theorem Mu.new {B H : Hp} {p : Addr} {xs : List V} (e : Ex B H) (h : H p = none) : Mu B (upd H p (.lst xs)) p xs := ⟨e.free h, upd_same⟩
theorem Mu.ne {B H : Hp} {l p : Addr} {xs : List V} (m : Mu B H l xs) (h : H p = none) : p ≠ l := fun z => by
  rw [z, m.h] at h
  cases h
theorem Mu.ne' {B H : Hp} {l p : Addr} {xs : List V} (m : Mu B H l xs) (h : H p = none) : l ≠ p := (m.ne h).symm
/-- .. is changed -/
theorem Mu.put {B H : Hp} {l : Addr} {xs ys : List V} (m : Mu B H l xs) (e : Ex B H) : Nx [l] B H B (upd H l (.lst ys)) :=
  ⟨Ex.refl _, e.mut m.b, fun a u q z => by rw [upd_ne (fun y => z (by rw [y]; simp))]; exact q, fun a q _ => q⟩
theorem Mu.set {B H : Hp} {l : Addr} {xs ys : List V} (m : Mu B H l xs) : Mu B (upd H l (.lst ys)) l ys := ⟨m.b, upd_same⟩
theorem Mu.off {B H : Hp} {l p : Addr} {xs ys : List V} (m : Mu B H l xs) (h : l ≠ p) : Mu B (upd H p (.lst ys)) l xs := ⟨m.b, by rw [upd_ne h]; exact m.h⟩
theorem Mu.sq {K : PySem.W.Frag} {B H : Hp} {l : Addr} {xs : List V} (m : Mu B H l xs) : SqL K H l xs := SqL.of m.h
/-- it is frozen from here on -/
theorem Mu.frz {M : List Addr} {B H : Hp} {l : Addr} {xs : List V} (m : Mu B H l xs) (e : Ex B H) : Ex B (upd B l (.lst xs)) ∧ Ex (upd B l (.lst xs)) H ∧ upd B l (.lst xs) l = some (.lst xs) :=
  ⟨Ex.new m.b, fun a u q => by
    by_cases z : a = l
    · subst z; rw [upd_same] at q; cases q; exact m.h
    · rw [upd_ne z] at q; exact e a u q, upd_same⟩

/-! ### short readings -/
section
variable {K : PySem.W.Frag} {σ : L2.St} {B H : Hp} {Q : VK} {R : Bool → Hp → Prop} {ta tb te tx : TE} {x y z v : V} {r : R2} {t u : TT}
theorem sx_var {i : Nat} (h : σ[i]? = some (some v)) (q : Q v H) : tVar i σ H Q := ⟨v, h, q⟩
theorem sx_c (q : Q v H) : tC v σ H Q := q
theorem sx_op (q : ta σ H fun x H1 => tb σ H1 fun y H2 => r x y H2 Q) : tOp r ta tb σ H Q := q
theorem sx_un {r : V → Hp → VK → Prop} (q : ta σ H fun x H1 => r x H1 Q) : tUn r ta σ H Q := q
theorem sx_I0 {g : Int → Int → V} {i j : Int} (q : Q (g i j) H) : rI0 g (.int i) (.int j) H Q := ⟨i, j, rfl, rfl, q⟩
theorem sx_I {C : Int → Int → Prop} {g : Int → Int → V} {i j : Int} (c : C i j) (q : Q (g i j) H) : rI C g (.int i) (.int j) H Q := ⟨i, j, rfl, rfl, c, q⟩
theorem sx_U {g : Int → V} {i : Int} (q : Q (g i) H) : rU g (.int i) H Q := ⟨i, rfl, q⟩
theorem sx_eq (h : scal x y = true) (q : Q (.bl (decide (x = y))) H) : rEq x y H Q := ⟨h, q⟩
theorem sx_ne (h : scal x y = true) (q : Q (.bl (!decide (x = y))) H) : rNe x y H Q := ⟨h, q⟩
theorem sx_isBV {b : Bool} (q : Q (.bl (decide (x = .bl b))) H) : rIsBV x (.bl b) H Q := ⟨b, rfl, q⟩
theorem sx_test (q : te σ H fun x H' => ∃ k, x = .bl k ∧ R k H') : tTest te σ H R := q
theorem sx_tB (q : te σ H fun x H' => ∃ k, x = .bl k ∧ R k H') : tB te σ H R := q
theorem sx_isB {b : Bool} {P : Bool → Prop} (q : P b) : ∃ c, V.bl b = .bl c ∧ P c := ⟨b, rfl, q⟩
theorem sx_bl {b : Bool} (q : R b H) : ∃ k, V.bl b = .bl k ∧ R k H := ⟨b, rfl, q⟩
theorem sx_not (q : t σ H fun c H1 => R (!c) H1) : tNot t σ H R := q
theorem sx_and (q : t σ H fun c H1 => if c = true then u σ H1 R else R false H1) : tAnd t u σ H R := q
theorem sx_or (q : t σ H fun c H1 => if c = true then R true H1 else u σ H1 R) : tOr t u σ H R := q
theorem sx_andV (q : ta σ H fun x H1 => ∃ c, x = .bl c ∧ if c = true then tb σ H1 Q else Q (.bl false) H1) : tAndV ta tb σ H Q := q
theorem sx_orV (q : ta σ H fun x H1 => ∃ c, x = .bl c ∧ if c = true then Q (.bl true) H1 else tb σ H1 Q) : tOrV ta tb σ H Q := q
theorem sx_notV (q : ta σ H fun x H1 => ∃ c, x = .bl c ∧ Q (.bl (!c)) H1) : tNotV ta σ H Q := q
theorem sx_bl2 {b : Bool} {P1 P2 : Prop} (q : if b = true then P1 else P2) : ∃ c, V.bl b = .bl c ∧ if c = true then P1 else P2 := ⟨b, rfl, q⟩
theorem sx_if (q : t σ H fun c H1 => if c = true then ta σ H1 Q else tb σ H1 Q) : tIf t ta tb σ H Q := q
theorem sx_nil {Q : List V → Hp → Prop} (q : Q [] H) : tNil σ H Q := q
theorem sx_cons {tr : TA} {Q : List V → Hp → Prop} (q : ta σ H fun x H1 => tr σ H1 fun xs H2 => Q (x :: xs) H2) : tCons ta tr σ H Q := q
theorem sx_cb {r : List V → Hp → VK → Prop} {t : TA} (q : t σ H fun vs H1 => r vs H1 Q) : tCB r t σ H Q := q
theorem sx_call {sp : Sp} {t : TA} {dvs : List V} {E : XK} (q : t σ H fun vs H1 => sp (vs ++ dvs) H1 Q E) : tCall sp dvs E t σ H Q := q
theorem sx_ixL {p : Addr} {xs : List V} {i : Int} (h : SqL K H p xs) (ha : atI xs i = some v) (q : Q v H) : rIxL K (.ref p) (.int i) H Q := ⟨p, xs, i, v, rfl, rfl, h, ha, q⟩
theorem sx_ixT {p : Addr} {xs : List V} {i : Int} (h : SqT K H p xs) (ha : atI xs i = some v) (q : Q v H) : rIxT K (.ref p) (.int i) H Q := ⟨p, xs, i, v, rfl, rfl, h, ha, q⟩
/-! statements -/
variable {D : Ends} {g : TG} {ts tu : TS}
theorem sx_seq (q : ts { D with nx := tu D } σ H) : tSeq ts tu D σ H := q
theorem sx_next (q : D.nx σ H) : tNext D σ H := q
theorem sx_asg (q : te σ H fun x H1 => g x σ H1 D.nx) : tAsg te g D σ H := q
theorem sx_gname {i : Nat} {Q : L2.St → Hp → Prop} (q : Q (σ.set i (some v)) H) : gName i v σ H Q := q
theorem sx_drop (q : te σ H fun _ H1 => D.nx σ H1) : tDrop te D σ H := q
theorem sx_ret (q : te σ H D.rt) : tRet te D σ H := q
theorem sx_retN (q : D.rt .non H) : tRetN D σ H := q
theorem sx_ifS (q : t σ H fun b H1 => if b = true then ts D σ H1 else tu D σ H1) : tIfS t ts tu D σ H := q
theorem sx_par {i j : Nat} {ta : TA} (q : ta σ H fun vs H1 => ∃ v w, vs = [v, w] ∧ D.nx ((σ.set i (some v)).set j (some w)) H1) : tPar i j ta D σ H := q
theorem sx_par2 {Q : V → V → Prop} (q : Q x y) : ∃ v w, [x, y] = [v, w] ∧ Q v w := ⟨x, y, rfl, q⟩
theorem sx_bm0 {T : String} {r : V → List V → Hp → VK → Prop} (q : te σ H fun x H1 => tyV K T x H1 ∧ r x [] H1 Q) : tBM0 K T r te σ H Q := q
theorem sx_bm {T : String} {r : V → List V → Hp → VK → Prop} {ta : TA} (q : te σ H fun x H1 => tyV K T x H1 ∧ ta σ H1 fun xs H2 => r x xs H2 Q) : tBM K T r te ta σ H Q := q
theorem sx_tyL {p : Addr} {xs : List V} {A : Prop} (h : SqL K H p xs) (q : A) : tyV K "list" (.ref p) H ∧ A := ⟨.inl ⟨rfl, _, h⟩, q⟩
theorem sx_gsub {to ti : TE} {t : TSet} {Q : L2.St → Hp → Prop} (q : to σ H fun o H1 => ti σ H1 fun i H2 => t o i v H2 fun H3 => Q σ H3) : gSub to ti t v σ H Q := q
theorem sx_GT {xs : List V} (q : ∀ a, (∀ H', SqT K H' a xs) → Q (.ref a) H) : tGT K xs σ H Q := q
/-- a display -/
def rNewT (xs : List V) (H : Hp) (Q : VK) : Prop := xs.length ≤ sizeLine ∧ ∀ p, H p = none → Q (.ref p) (upd H p (.tup xs))
def rNewL (xs : List V) (H : Hp) (Q : VK) : Prop := xs.length ≤ sizeLine ∧ ∀ p, H p = none → Q (.ref p) (upd H p (.lst xs))
theorem sx_tup {ta : TA} (q : ta σ H fun xs H1 => rNewT xs H1 Q) : tTup ta σ H Q := q
theorem sx_lst {ta : TA} (q : ta σ H fun xs H1 => rNewL xs H1 Q) : tLst ta σ H Q := q
theorem sz_of {n : Nat} (h : n ≤ 100000) : n ≤ sizeLine := Nat.le_trans h (by decide)
theorem sz_lt {n : Nat} (h : n < 100000) : n < sizeLine := Nat.lt_of_lt_of_le h (by decide)
/-- a new tuple of data -/
theorem sx_newT {xs : List V} {ds : List PyData} (e : Ex B H) (hd : DpAll K B xs ds) (hz : ds.length ≤ 100000) (q : ∀ p B' H', H p = none → Nx [] B H B' H' → Dp K B' (.ref p) (.tuple ds) → Q (.ref p) H') : rNewT xs H Q :=
  ⟨sz_of (by rw [Dps.len hd]; exact hz), fun p hp => q p (upd B p (.tup xs)) _ hp (Nx.new e hp) (.tup (SqT.of upd_same) (Dps.up (Ex.new (e.free hp)) hd))⟩
/-- a new list that may change -/
theorem sx_newM {xs : List V} (e : Ex B H) (hz : xs.length ≤ 100000) (q : ∀ p H', H p = none → Nx [] B H B H' → Mu B H' p xs → Q (.ref p) H') : rNewL xs H Q :=
  ⟨sz_of hz, fun p hp => q p _ hp (Nx.own e hp) (Mu.new e hp)⟩
/-- a new list of data that won't change -/
theorem sx_newL {xs : List V} {ds : List PyData} (e : Ex B H) (hd : DpAll K B xs ds) (hz : ds.length ≤ 100000) (q : ∀ p B' H', H p = none → Nx [] B H B' H' → Dp K B' (.ref p) (.list ds) → Q (.ref p) H') : rNewL xs H Q :=
  ⟨sz_of (by rw [Dps.len hd]; exact hz), fun p hp => q p (upd B p (.lst xs)) _ hp (Nx.new e hp) (.lst (SqL.of upd_same) (Dps.up (Ex.new (e.free hp)) hd))⟩
theorem sx_append {l : Addr} {xs : List V} (m : Mu B H l xs) (e : Ex B H) (hz : xs.length < 100000) (q : ∀ H', Nx [l] B H B H' → Mu B H' l (xs ++ [y]) → Q .non H') : rAppend (.ref l) [y] H Q :=
  ⟨l, xs, y, rfl, rfl, m.h, sz_lt hz, q _ (m.put e) m.set⟩
theorem sx_pop {l : Addr} {xs : List V} (m : Mu B H l (xs ++ [y])) (e : Ex B H) (q : ∀ H', Nx [l] B H B H' → Mu B H' l xs → Q y H') : rPop (.ref l) [] H Q := by
  refine ⟨l, xs ++ [y], y, rfl, rfl, m.h, by simp, ?_⟩
  have h := q (upd H l (.lst xs)) (m.put e) m.set
  rwa [List.dropLast_concat]
theorem sx_popAt {l : Addr} {xs : List V} {i : Nat} (m : Mu B H l xs) (e : Ex B H) (hi : xs[i]? = some y) (hz : xs.length ≤ 100000) (q : ∀ H', Nx [l] B H B H' → Mu B H' l (xs.eraseIdx i) → Q y H') : rPopAt (.ref l) [.int (i : Int)] H Q := by
  have h1 := (List.getElem?_eq_some_iff.mp hi).1
  refine ⟨l, xs, (i : Int), i, y, rfl, rfl, m.h, by omega, by omega, ?_, hi, q _ (m.put e) m.set⟩
  have h2 : ¬ ((i : Int) < 0) := by omega
  have h3 : (decide (0 ≤ (i : Int)) && decide ((i : Int) < (xs.length : Int))) = true := by
    rw [decide_eq_true (by omega : (0 : Int) ≤ (i : Int)), decide_eq_true (by omega : (i : Int) < (xs.length : Int))]; rfl
  simp only [seqIndex?, if_neg h2, h3, if_true, Int.toNat_natCast]
theorem sx_setL {l : Addr} {xs : List V} {j : Nat} {k : Int} {Q : Hp → Prop} (m : Mu B H l xs) (e : Ex B H) (hj : ixN xs.length k = some j) (q : ∀ H', Nx [l] B H B H' → Mu B H' l (xs.set j v) → Q H') : rSetL (.ref l) (.int k) v H Q :=
  ⟨l, xs, k, j, rfl, rfl, m.h, hj, q _ (m.put e) m.set⟩
/-- data -/
theorem sx_ixTd {ds : List PyData} {i : Int} {d : PyData} (h : Dp K B x (.tuple ds)) (e : Ex B H) (ha : atI ds i = some d) (q : ∀ v, Dp K B v d → Q v H) : rIxT K x (.int i) H Q := by
  obtain ⟨a, xs, rfl, hs, hd⟩ := Dp.tup_v h
  unfold atI at ha
  cases hj : ixN ds.length i with
  | none => rw [hj] at ha; cases ha
  | some j =>
    rw [hj] at ha
    obtain ⟨v, h1, h2⟩ := Dps.get hd (show ds[j]? = some d from ha)
    refine ⟨a, xs, i, v, rfl, rfl, e.t hs, ?_, q v h2⟩
    unfold atI
    rw [Dps.len hd, hj]
    exact h1
theorem sx_ixLd {ds : List PyData} {i : Int} {d : PyData} (h : Dp K B x (.list ds)) (e : Ex B H) (ha : atI ds i = some d) (q : ∀ v, Dp K B v d → Q v H) : rIxL K x (.int i) H Q := by
  obtain ⟨a, xs, rfl, hs, hd⟩ := Dp.lst_v h
  unfold atI at ha
  cases hj : ixN ds.length i with
  | none => rw [hj] at ha; cases ha
  | some j =>
    rw [hj] at ha
    obtain ⟨v, h1, h2⟩ := Dps.get hd (show ds[j]? = some d from ha)
    refine ⟨a, xs, i, v, rfl, rfl, e.l hs, ?_, q v h2⟩
    unfold atI
    rw [Dps.len hd, hj]
    exact h1
end

/-! ### built-ins, by name -/
section
variable {X : Cx} {K : PySem.W.Frag} {σ : L2.St} {B H : Hp} {Q : VK} {x y v : V}
def rLen (K : PySem.W.Frag) : List V → Hp → VK → Prop := fun xs H Q => ∃ p ys, xs = [.ref p] ∧ (SqL K H p ys ∨ SqT K H p ys) ∧ Q (.int ys.length) H
theorem cl_len : CallR X (.builtin "len") (rLen X.K) := call_len_seq
theorem sx_lenL {p : Addr} {ys : List V} (h : SqL K H p ys) (q : Q (.int ys.length) H) : rLen K [.ref p] H Q := ⟨p, ys, rfl, .inl h, q⟩
theorem sx_lenT {p : Addr} {ys : List V} (h : SqT K H p ys) (q : Q (.int ys.length) H) : rLen K [.ref p] H Q := ⟨p, ys, rfl, .inr h, q⟩
theorem sx_lenTd {ds : List PyData} (h : Dp K B x (.tuple ds)) (e : Ex B H) (q : Q (.int ds.length) H) : rLen K [x] H Q := by
  obtain ⟨a, xs, rfl, hs, hd⟩ := Dp.tup_v h
  exact ⟨a, xs, rfl, .inr (e.t hs), by rw [Dps.len hd]; exact q⟩
theorem sx_lenLd {ds : List PyData} (h : Dp K B x (.list ds)) (e : Ex B H) (q : Q (.int ds.length) H) : rLen K [x] H Q := by
  obtain ⟨a, xs, rfl, hs, hd⟩ := Dp.lst_v h
  exact ⟨a, xs, rfl, .inl (e.l hs), by rw [Dps.len hd]; exact q⟩
def rInt : List V → Hp → VK → Prop := fun xs H Q => (∃ i, xs = [.int i] ∧ Q (.int i) H) ∨ ∃ k, xs = [.bl k] ∧ Q (.int (if k then 1 else 0)) H
theorem cl_int : CallR X (.type "int") rInt := call_int1
theorem sx_int {i : Int} (q : Q (.int i) H) : rInt [.int i] H Q := .inl ⟨i, rfl, q⟩
def rAbs : List V → Hp → VK → Prop := fun xs H Q => ∃ i, xs = [.int i] ∧ Q (.int (if i < 0 then -i else i)) H
theorem cl_abs : CallR X (.builtin "abs") rAbs := call_abs
theorem sx_abs {i : Int} (q : Q (.int (if i < 0 then -i else i)) H) : rAbs [.int i] H Q := ⟨i, rfl, q⟩
def rMin : List V → Hp → VK → Prop := fun xs H Q => ∃ i j, xs = [.int i, .int j] ∧ Q (.int (if j < i then j else i)) H
theorem cl_min (hc : X.calm = true) : CallR X (.builtin "min") rMin := call_min2 hc
theorem sx_min {i j : Int} (q : Q (.int (if j < i then j else i)) H) : rMin [.int i, .int j] H Q := ⟨i, j, rfl, q⟩
def rMax : List V → Hp → VK → Prop := fun xs H Q => ∃ i j, xs = [.int i, .int j] ∧ Q (.int (if j > i then j else i)) H
theorem cl_max (hc : X.calm = true) : CallR X (.builtin "max") rMax := call_max2 hc
theorem sx_max {i j : Int} (q : Q (.int (if j > i then j else i)) H) : rMax [.int i, .int j] H Q := ⟨i, j, rfl, q⟩
def rListOf (K : PySem.W.Frag) : List V → Hp → VK → Prop := fun xs H Q => ∃ p ys, xs = [.ref p] ∧ (SqL K H p ys ∨ SqT K H p ys) ∧ ∀ l, H l = none → Q (.ref l) (upd H l (.lst ys))
theorem cl_list : CallR X (.type "list") (rListOf X.K) := call_list_of
theorem sx_listOf {p : Addr} {ys : List V} (e : Ex B H) (h : SqL K H p ys ∨ SqT K H p ys) (q : ∀ l H', H l = none → Nx [] B H B H' → Mu B H' l ys → Q (.ref l) H') : rListOf K [.ref p] H Q := ⟨p, ys, rfl, h, fun l hl => q l _ hl (Nx.own e hl) (Mu.new e hl)⟩
def rTupOf (K : PySem.W.Frag) : List V → Hp → VK → Prop := fun xs H Q => ∃ p ys, xs = [.ref p] ∧ ((SqL K H p ys ∧ ∀ l, H l = none → Q (.ref l) (upd H l (.tup ys))) ∨ (SqT K H p ys ∧ Q (.ref p) H))
theorem cl_tuple : CallR X (.type "tuple") (rTupOf X.K) := call_tuple_of
theorem sx_tupOfL {p : Addr} {ys : List V} {ds : List PyData} (e : Ex B H) (h : SqL K H p ys) (hd : DpAll K B ys ds) (q : ∀ l B' H', H l = none → Nx [] B H B' H' → Dp K B' (.ref l) (.tuple ds) → Q (.ref l) H') : rTupOf K [.ref p] H Q :=
  ⟨p, ys, rfl, .inl ⟨h, fun l hl => q l (upd B l (.tup ys)) _ hl (Nx.new e hl) (.tup (SqT.of upd_same) (Dps.up (Ex.new (e.free hl)) hd))⟩⟩
theorem sx_tupOfT {p : Addr} {ys : List V} (h : SqT K H p ys) (q : Q (.ref p) H) : rTupOf K [.ref p] H Q := ⟨p, ys, rfl, .inr ⟨h, q⟩⟩
/-- isinstance of data by one class -/
theorem sx_isi {d : PyData} {n : String} {b : Bool} (h : Dp K B x d) (e : Ex B H) (k : kitB (tyD d) n = some b) (q : Q (.bl b) H) : rIsi K [x, .ty n] H Q := ⟨x, .ty n, .type (tyD d), .type n, b, rfl, .ty n, Dp.ty h e, kit_ty k, q⟩
def rAddS : R2 := fun x y H Q => ∃ i j, x = .str i ∧ y = .str j ∧ i.length + j.length ≤ sizeLine ∧ Q (.str (i ++ j)) H
theorem op_addS : OpR X (binaryOp .Add) rAddS := op_add_str
theorem sx_addS {i j : Str} (h : i.length + j.length ≤ 100000) (q : Q (.str (i ++ j)) H) : rAddS (.str i) (.str j) H Q := ⟨i, j, rfl, rfl, sz_of h, q⟩
def rIsN : R2 := fun x y H Q => y = .non ∧ Q (.bl (decide (x = .non))) H
def rNotN : R2 := fun x y H Q => y = .non ∧ Q (.bl (!decide (x = .non))) H
theorem op_isN1 : OpR X (compareOp .Is) G.rIsN := op_isN
theorem op_notN1 : OpR X (compareOp .IsNot) G.rNotN := op_notN
theorem sx_isN (q : Q (.bl (decide (x = .non))) H) : G.rIsN x .non H Q := ⟨rfl, q⟩
theorem sx_notN (q : Q (.bl (!decide (x = .non))) H) : G.rNotN x .non H Q := ⟨rfl, q⟩
end

/-! ### a cut -/
section
variable {X : Cx}
def tCut (t u : TS) : TS := fun D σ H => ∃ Mid : L2.St → Hp → Prop, t { D with nx := Mid } σ H ∧ ∀ σ' H', Mid σ' H' → u D σ' H'
theorem pss_cut {st : Stmt} {rest : List Stmt} {t u : TS} (h1 : PS X st t) (h2 : PSs X rest u) : PSs X (st :: rest) (tCut t u) := by
  refine ⟨fun pins s σ H D I h => ?_⟩
  obtain ⟨Mid, hm, hu⟩ := h
  refine wpAny_execs_cons (thn (h1.run pins s σ H { D with nx := Mid } I hm) fun f s1 q => ?_)
  cases f with
  | next =>
    obtain ⟨σ', H', I', q⟩ := q
    exact h2.run pins s1 σ' H' D I' (hu σ' H' q)
  | ret v => exact q
  | brk => exact q
  | cont => exact q
theorem sx_cut {t u : TS} {D : Ends} {σ : L2.St} {H : Hp} (Mid : L2.St → Hp → Prop) (h : t { D with nx := Mid } σ H) (k : ∀ σ' H', Mid σ' H' → u D σ' H') : tCut t u D σ H := ⟨Mid, h, k⟩
end
/-! ### tests -/
theorem ifT {A B : Prop} {b : Bool} (e : b = true) (h : A) : if b = true then A else B := by rw [if_pos e]; exact h
theorem ifF {A B : Prop} {b : Bool} (e : b = false) (h : B) : if b = true then A else B := by rw [if_neg (by rw [e]; exact Bool.false_ne_true)]; exact h
theorem dT {p : Prop} [Decidable p] (h : p) : decide p = true := decide_eq_true h
theorem dF {p : Prop} [Decidable p] (h : ¬ p) : decide p = false := decide_eq_false h
theorem int_eqT {i j : Int} (h : i = j) : decide (V.int i = V.int j) = true := decide_eq_true (by rw [h])
theorem int_eqF {i j : Int} (h : i ≠ j) : decide (V.int i = V.int j) = false := decide_eq_false fun z => h (V.int.inj z)
theorem str_eqT {i j : Str} (h : i = j) : decide (V.str i = V.str j) = true := decide_eq_true (by rw [h])
theorem str_eqF {i j : Str} (h : i ≠ j) : decide (V.str i = V.str j) = false := decide_eq_false fun z => h (V.str.inj z)
theorem snoc_of {α : Type} {xs : List α} (h : xs ≠ []) : ∃ r z, xs = r ++ [z] := ⟨xs.dropLast, xs.getLast h, (List.dropLast_concat_getLast h).symm⟩
theorem atI_end {α : Type} {r : List α} {z : α} : atI (r ++ [z]) (-1) = some z := atI_last _ _
section
variable {H : Hp} {Q : VK} {i j : Int}
theorem sx_mod (h : 0 < j) (q : Q (.int (i % j)) H) : rI (fun _ j => 0 < j) (fun i j => .int (i % j)) (.int i) (.int j) H Q := ⟨i, j, rfl, rfl, h, q⟩
theorem sx_div (h : 0 < j) (h1 : j < 1073741824) (q : Q (.int (i / j)) H) : rI CDiv (fun i j => .int (i / j)) (.int i) (.int j) H Q := ⟨i, j, rfl, rfl, ⟨h, h1⟩, q⟩
/-- a product of numbers below 2 ^ 64 -/
theorem sx_mul64 (h : -(2 ^ 64) < i ∧ i < 2 ^ 64) (h1 : -(2 ^ 64) < j ∧ j < 2 ^ 64) (q : Q (.int (i * j)) H) : rI CMulW (fun i j => .int (i * j)) (.int i) (.int j) H Q :=
  ⟨i, j, rfl, rfl, wide_mul (a := 65) (b := 65) (by have : (2 : Nat) ^ 65 = 2 * 2 ^ 64 := by decide
                                                    omega) (by omega) (by decide) (by decide) (by decide), q⟩
theorem sx_mulW {a b : Nat} (ha : i.natAbs < 2 ^ a) (hb : j.natAbs < 2 ^ b) (h0 : 0 < a) (h1 : 0 < b) (h : a + b ≤ 1000000) (q : Q (.int (i * j)) H) : rI CMulW (fun i j => .int (i * j)) (.int i) (.int j) H Q := ⟨i, j, rfl, rfl, wide_mul ha hb h0 h1 h, q⟩
theorem sx_pow (h0 : 0 ≤ j) (h1 : j ≤ 1000000) (h2 : i.natAbs < 2 ^ 64) (q : Q (.int (i ^ j.toNat)) H) : rI CPow (fun i j => .int (i ^ j.toNat)) (.int i) (.int j) H Q := ⟨i, j, rfl, rfl, ⟨h0, h1, h2⟩, q⟩
end

/-! ### loops and comprehensions -/
section
variable {K : PySem.W.Frag} {σ : L2.St} {B H : Hp} {Q : VK} {tl te : TE} {g : TG} {tt : TT} {tb : TS} {vs : List Nat} {D : Ends} {ta : TA} {x : V}
/-- a comprehension over what the value x is (a list) -/
def rLcL (K : PySem.W.Frag) (g : TG) (tt : TT) (te : TE) (vs : List Nat) (σ : L2.St) (x : V) (H : Hp) (Q : VK) : Prop := ∃ a, x = .ref a ∧ (∃ xs, SqL K H a xs) ∧ ∀ D, H D = none → ∃ W : Nat → Nat → Hp → Prop, (∃ m, W 0 m (upd H D (.lst []))) ∧ ∀ i m H, W i m H →
  ((Itl K a).stop i H ∧ Q (.ref D) H) ∨ ((Itl K a).go i H ∧ ∃ Nx : Hp → Prop, (∀ H', Nx H' → ∃ m', m' < m ∧ W (i + 1) m' H') ∧ ∀ x H', (Itl K a).yld i H x H' → g x (wipe σ vs) H' fun σ2 H2 => wipe σ2 vs = wipe σ vs ∧ tt σ2 H2 fun b H3 =>
    if b = true then te σ2 H3 fun y H4 => ∃ acc, H4 D = some (.lst acc) ∧ acc.length < sizeLine ∧ Nx (upd H4 D (.lst (acc ++ [y]))) else Nx H3)
theorem sx_lcL (q : tl σ H fun x H1 => rLcL K g tt te vs σ x H1 Q) : tLc (iList K tl) g tt te vs σ H Q := q
def rLcT (K : PySem.W.Frag) (g : TG) (tt : TT) (te : TE) (vs : List Nat) (σ : L2.St) (x : V) (H : Hp) (Q : VK) : Prop := ∃ a, x = .ref a ∧ (∃ xs, SqT K H a xs) ∧ ∀ D, H D = none → ∃ W : Nat → Nat → Hp → Prop, (∃ m, W 0 m (upd H D (.lst []))) ∧ ∀ i m H, W i m H →
  ((Itt K a).stop i H ∧ Q (.ref D) H) ∨ ((Itt K a).go i H ∧ ∃ Nx : Hp → Prop, (∀ H', Nx H' → ∃ m', m' < m ∧ W (i + 1) m' H') ∧ ∀ x H', (Itt K a).yld i H x H' → g x (wipe σ vs) H' fun σ2 H2 => wipe σ2 vs = wipe σ vs ∧ tt σ2 H2 fun b H3 =>
    if b = true then te σ2 H3 fun y H4 => ∃ acc, H4 D = some (.lst acc) ∧ acc.length < sizeLine ∧ Nx (upd H4 D (.lst (acc ++ [y]))) else Nx H3)
theorem sx_lcT (q : tl σ H fun x H1 => rLcT K g tt te vs σ x H1 Q) : tLc (iTup K tl) g tt te vs σ H Q := q
def rLcR (g : TG) (tt : TT) (te : TE) (vs : List Nat) (σ : L2.St) (us : List V) (H : Hp) (Q : VK) : Prop := ∃ j : Int, us = [.int j] ∧ -(2 ^ 62) ≤ j ∧ j < 2 ^ 62 ∧ ∀ D, H D = none → ∃ W : Nat → Nat → Hp → Prop, (∃ m, W 0 m (upd H D (.lst []))) ∧ ∀ i m H, W i m H →
  ((Itr 0 j.toNat).stop i H ∧ Q (.ref D) H) ∨ ((Itr 0 j.toNat).go i H ∧ ∃ Nx : Hp → Prop, (∀ H', Nx H' → ∃ m', m' < m ∧ W (i + 1) m' H') ∧ ∀ x H', (Itr 0 j.toNat).yld i H x H' → g x (wipe σ vs) H' fun σ2 H2 => wipe σ2 vs = wipe σ vs ∧ tt σ2 H2 fun b H3 =>
    if b = true then te σ2 H3 fun y H4 => ∃ acc, H4 D = some (.lst acc) ∧ acc.length < sizeLine ∧ Nx (upd H4 D (.lst (acc ++ [y]))) else Nx H3)
theorem sx_lcR (q : ta σ H fun us H1 => rLcR g tt te vs σ us H1 Q) : tLc (iRng1 ta) g tt te vs σ H Q := q
/-- the list grows -/
theorem sx_lcEnd {L : Addr} {acc : List V} {y : V} {P : Hp → Prop} (m : Mu B H L acc) (e : Ex B H) (hz : acc.length < 100000) (q : ∀ H', Nx [L] B H B H' → Mu B H' L (acc ++ [y]) → P H') : ∃ acc, H L = some (.lst acc) ∧ acc.length < sizeLine ∧ P (upd H L (.lst (acc ++ [y]))) :=
  ⟨acc, m.h, sz_lt hz, q _ (m.put e) m.set⟩
/-- one that makes values of values -/
theorem sx_lcPure {a : Addr} {xs : List V} {j : Nat} (f : V → Bool) (h : V → V) (e : Ex B H) (hx : SqL K H a xs) (hz : xs.length ≤ 100000) (hw : ∀ x, wipe ((wipe σ vs).set j (some x)) vs = wipe σ vs)
    (ht : ∀ x ∈ xs, ∀ H1 (R : Bool → Hp → Prop), Ex H H1 → R (f x) H1 → tt ((wipe σ vs).set j (some x)) H1 R)
    (he : ∀ x ∈ xs, f x = true → ∀ H1 (R : VK), Ex H H1 → R (h x) H1 → te ((wipe σ vs).set j (some x)) H1 R)
    (q : ∀ p H', H p = none → Nx [] B H B H' → Mu B H' p ((xs.filter f).map h) → Q (.ref p) H') : rLcL K (gName j) tt te vs σ (.ref a) H Q := by
  refine ⟨a, rfl, ⟨xs, hx⟩, fun L hL => lc_list (xs := xs) (fun i H' => Nx [] B H B H' ∧ Mu B H' L (((xs.take i).filter f).map h)) ⟨Nx.own e hL, by simpa using Mu.new e hL⟩ (fun i H' _ p => p.1.ex.l hx) (fun i x H' hi p => ?_) (fun H' p => q L H' hL p.1 (by simpa using p.2))⟩
  have hm : x ∈ xs := List.mem_of_getElem? hi
  have hlen : (((xs.take i).filter f).map h).length ≤ 100000 := by
    rw [List.length_map]
    exact Nat.le_trans (List.length_filter_le _ _) (Nat.le_trans (by rw [List.length_take]; exact Nat.min_le_right _ _) hz)
  have hi' := (List.getElem?_eq_some_iff.mp hi).1
  have hlen2 : (((xs.take i).filter f).map h).length < 100000 := by
    rw [List.length_map]
    exact Nat.lt_of_le_of_lt (List.length_filter_le _ _) (by rw [List.length_take]; omega)
  show wipe ((wipe σ vs).set j (some x)) vs = wipe σ vs ∧ _
  refine ⟨hw x, ?_⟩
  refine ht x hm H' _ p.1.ex ?_
  have htake : xs.take (i + 1) = xs.take i ++ [x] := by rw [List.take_add_one, hi]; rfl
  cases hf : f x with
  | true =>
    refine iteT ?_
    refine he x hm hf H' _ p.1.ex ?_
    have n2 := p.2.put (ys := ((xs.take i).filter f).map h ++ [h x]) p.1.h
    have m2 := p.2.set (ys := ((xs.take i).filter f).map h ++ [h x])
    refine ⟨_, p.2.h, sz_lt hlen2, ?_, ?_⟩
    · exact ⟨Ex.refl _, n2.h, fun b o hb _ => by
        by_cases z : b = L
        · subst z; rw [hL] at hb; cases hb
        · exact n2.k b o (p.1.k b o hb (by simp)) (by simp [z]), fun b hb _ => hb⟩
    · rw [htake, List.filter_append, List.filter_cons, if_pos hf, List.map_append]
      exact m2
  | false =>
    refine iteF ⟨p.1, ?_⟩
    rw [htake, List.filter_append, List.filter_cons, if_neg (by rw [hf]; exact Bool.false_ne_true), List.filter_nil, List.append_nil]
    exact p.2
/-- a for over what the value x is -/
def rForL (K : PySem.W.Frag) (g : TG) (tb : TS) (D : Ends) (σ : L2.St) (x : V) (H : Hp) : Prop := ∃ a, x = .ref a ∧ (∃ xs, SqL K H a xs) ∧ ∃ W : Nat → Nat → L2.St → Hp → Prop, (∃ m, W 0 m σ H) ∧ ∀ i m σ H, W i m σ H →
  ((Itl K a).stop i H ∧ D.nx σ H) ∨ ((Itl K a).go i H ∧ ∃ N : L2.St → Hp → Prop, (∀ σ' H', N σ' H' → ∃ m', m' < m ∧ W (i + 1) m' σ' H') ∧ ∀ x H', (Itl K a).yld i H x H' → g x σ H' fun σ2 H2 => tb { D with nx := N, ct := N, bk := D.nx } σ2 H2)
theorem sx_forL (q : tl σ H fun x H1 => rForL K g tb D σ x H1) : tFor (iList K tl) g tb D σ H := q
def rForT (K : PySem.W.Frag) (g : TG) (tb : TS) (D : Ends) (σ : L2.St) (x : V) (H : Hp) : Prop := ∃ a, x = .ref a ∧ (∃ xs, SqT K H a xs) ∧ ∃ W : Nat → Nat → L2.St → Hp → Prop, (∃ m, W 0 m σ H) ∧ ∀ i m σ H, W i m σ H →
  ((Itt K a).stop i H ∧ D.nx σ H) ∨ ((Itt K a).go i H ∧ ∃ N : L2.St → Hp → Prop, (∀ σ' H', N σ' H' → ∃ m', m' < m ∧ W (i + 1) m' σ' H') ∧ ∀ x H', (Itt K a).yld i H x H' → g x σ H' fun σ2 H2 => tb { D with nx := N, ct := N, bk := D.nx } σ2 H2)
theorem sx_forT (q : tl σ H fun x H1 => rForT K g tb D σ x H1) : tFor (iTup K tl) g tb D σ H := q
def rForR (g : TG) (tb : TS) (D : Ends) (σ : L2.St) (us : List V) (H : Hp) : Prop := ∃ j : Int, us = [.int j] ∧ -(2 ^ 62) ≤ j ∧ j < 2 ^ 62 ∧ ∃ W : Nat → Nat → L2.St → Hp → Prop, (∃ m, W 0 m σ H) ∧ ∀ i m σ H, W i m σ H →
  ((Itr 0 j.toNat).stop i H ∧ D.nx σ H) ∨ ((Itr 0 j.toNat).go i H ∧ ∃ N : L2.St → Hp → Prop, (∀ σ' H', N σ' H' → ∃ m', m' < m ∧ W (i + 1) m' σ' H') ∧ ∀ x H', (Itr 0 j.toNat).yld i H x H' → g x σ H' fun σ2 H2 => tb { D with nx := N, ct := N, bk := D.nx } σ2 H2)
theorem sx_forR (q : ta σ H fun us H1 => rForR g tb D σ us H1) : tFor (iRng1 ta) g tb D σ H := q
def rForR2 (g : TG) (tb : TS) (D : Ends) (σ : L2.St) (us : List V) (H : Hp) : Prop := ∃ i j : Int, us = [.int i, .int j] ∧ (-(2 ^ 62) ≤ i ∧ i < 2 ^ 62 ∧ -(2 ^ 62) ≤ j ∧ j < 2 ^ 62) ∧ ∃ W : Nat → Nat → L2.St → Hp → Prop, (∃ m, W 0 m σ H) ∧ ∀ n m σ H, W n m σ H →
  ((Itr i (j - i).toNat).stop n H ∧ D.nx σ H) ∨ ((Itr i (j - i).toNat).go n H ∧ ∃ N : L2.St → Hp → Prop, (∀ σ' H', N σ' H' → ∃ m', m' < m ∧ W (n + 1) m' σ' H') ∧ ∀ x H', (Itr i (j - i).toNat).yld n H x H' → g x σ H' fun σ2 H2 => tb { D with nx := N, ct := N, bk := D.nx } σ2 H2)
theorem sx_forR2 (q : ta σ H fun us H1 => rForR2 g tb D σ us H1) : tFor (iRng2 ta) g tb D σ H := q
/-- by an invariant -/
theorem sx_forL_by {a : Addr} {xs : List V} (hx : SqL K H a xs) (Pv : Nat → L2.St → Hp → Prop) (h0 : Pv 0 σ H) (hl : ∀ i σ H, i ≤ xs.length → Pv i σ H → SqL K H a xs)
    (hs : ∀ i x σ H, xs[i]? = some x → Pv i σ H → g x σ H fun σ2 H2 => tb { D with nx := Pv (i + 1), ct := Pv (i + 1), bk := D.nx } σ2 H2) (hd : ∀ σ H, Pv xs.length σ H → D.nx σ H) : rForL K g tb D σ (.ref a) H :=
  ⟨a, rfl, ⟨xs, hx⟩, for_list (xs := xs) Pv h0 hl hs hd⟩
theorem sx_forT_by {a : Addr} {xs : List V} (hx : SqT K H a xs) (Pv : Nat → L2.St → Hp → Prop) (h0 : Pv 0 σ H) (hl : ∀ i σ H, i ≤ xs.length → Pv i σ H → SqT K H a xs)
    (hs : ∀ i x σ H, xs[i]? = some x → Pv i σ H → g x σ H fun σ2 H2 => tb { D with nx := Pv (i + 1), ct := Pv (i + 1), bk := D.nx } σ2 H2) (hd : ∀ σ H, Pv xs.length σ H → D.nx σ H) : rForT K g tb D σ (.ref a) H :=
  ⟨a, rfl, ⟨xs, hx⟩, for_tup (xs := xs) Pv h0 hl hs hd⟩
theorem sx_forR_by {n : Nat} (hn : n ≤ 1000000) (Pv : Nat → L2.St → Hp → Prop) (h0 : Pv 0 σ H)
    (hs : ∀ i σ H, i < n → Pv i σ H → g (.int (i : Int)) σ H fun σ2 H2 => tb { D with nx := Pv (i + 1), ct := Pv (i + 1), bk := D.nx } σ2 H2) (hd : ∀ σ H, Pv n σ H → D.nx σ H) : rForR g tb D σ [.int (n : Int)] H :=
  ⟨(n : Int), rfl, by omega, by omega, for_range (lo := 0) (n := (n : Int).toNat) Pv h0 (fun i σ H hi p => by rw [Int.zero_add]; exact hs i σ H (by simpa using hi) p) (fun σ H p => hd σ H (by simpa using p))⟩
theorem sx_forR2_by {lo n : Nat} (hl : lo ≤ 1000000) (hn : n ≤ 1000000) (Pv : Nat → L2.St → Hp → Prop) (h0 : Pv 0 σ H)
    (hs : ∀ i σ H, lo + i < n → Pv i σ H → g (.int ((lo + i : Nat) : Int)) σ H fun σ2 H2 => tb { D with nx := Pv (i + 1), ct := Pv (i + 1), bk := D.nx } σ2 H2) (hd : ∀ σ H, Pv (n - lo) σ H → D.nx σ H) : rForR2 g tb D σ [.int (lo : Int), .int (n : Int)] H :=
  ⟨(lo : Int), (n : Int), rfl, by omega, for_range (lo := (lo : Int)) (n := ((n : Int) - (lo : Int)).toNat) Pv h0 (fun i σ H hi p => by rw [← Int.natCast_add]; exact hs i σ H (by omega) p) (fun σ H p => hd σ H (by rw [show n - lo = ((n : Int) - (lo : Int)).toNat by omega]; exact p))⟩
theorem sx_lcR_by {n : Nat} (hn : n ≤ 100000) (Pv : Addr → Nat → Hp → Prop) (h0 : ∀ L, H L = none → Pv L 0 (upd H L (.lst [])))
    (hs : ∀ L i H, i < n → Pv L i H → g (.int (i : Int)) (wipe σ vs) H fun σ2 H2 => wipe σ2 vs = wipe σ vs ∧ tt σ2 H2 fun b H3 =>
      if b = true then te σ2 H3 fun y H4 => ∃ acc, H4 L = some (.lst acc) ∧ acc.length < sizeLine ∧ Pv L (i + 1) (upd H4 L (.lst (acc ++ [y]))) else Pv L (i + 1) H3) (hd : ∀ L H, Pv L n H → Q (.ref L) H) : rLcR g tt te vs σ [.int (n : Int)] H Q :=
  ⟨(n : Int), rfl, by omega, by omega, fun L hL => lc_range (lo := 0) (n := (n : Int).toNat) (Pv L) (h0 L hL) (fun i H hi p => by rw [Int.zero_add]; exact hs L i H (by simpa using hi) p) (fun H p => hd L H (by simpa using p))⟩
theorem sx_lcL_by {a : Addr} {xs : List V} (hx : SqL K H a xs) (Pv : Addr → Nat → Hp → Prop) (h0 : ∀ L, H L = none → Pv L 0 (upd H L (.lst []))) (hl : ∀ L i H, i ≤ xs.length → Pv L i H → SqL K H a xs)
    (hs : ∀ L i x H, xs[i]? = some x → Pv L i H → g x (wipe σ vs) H fun σ2 H2 => wipe σ2 vs = wipe σ vs ∧ tt σ2 H2 fun b H3 =>
      if b = true then te σ2 H3 fun y H4 => ∃ acc, H4 L = some (.lst acc) ∧ acc.length < sizeLine ∧ Pv L (i + 1) (upd H4 L (.lst (acc ++ [y]))) else Pv L (i + 1) H3) (hd : ∀ L H, Pv L xs.length H → Q (.ref L) H) : rLcL K g tt te vs σ (.ref a) H Q :=
  ⟨a, rfl, ⟨xs, hx⟩, fun L hL => lc_list (xs := xs) (Pv L) (h0 L hL) (hl L) (hs L) (hd L)⟩
theorem sx_lcT_by {a : Addr} {xs : List V} (hx : SqT K H a xs) (Pv : Addr → Nat → Hp → Prop) (h0 : ∀ L, H L = none → Pv L 0 (upd H L (.lst []))) (hl : ∀ L i H, i ≤ xs.length → Pv L i H → SqT K H a xs)
    (hs : ∀ L i x H, xs[i]? = some x → Pv L i H → g x (wipe σ vs) H fun σ2 H2 => wipe σ2 vs = wipe σ vs ∧ tt σ2 H2 fun b H3 =>
      if b = true then te σ2 H3 fun y H4 => ∃ acc, H4 L = some (.lst acc) ∧ acc.length < sizeLine ∧ Pv L (i + 1) (upd H4 L (.lst (acc ++ [y]))) else Pv L (i + 1) H3) (hd : ∀ L H, Pv L xs.length H → Q (.ref L) H) : rLcT K g tt te vs σ (.ref a) H Q :=
  ⟨a, rfl, ⟨xs, hx⟩, fun L hL => lc_tup (xs := xs) (Pv L) (h0 L hL) (hl L) (hs L) (hd L)⟩
/-- slices -/
theorem sx_sl {r : V → Option Int → Option Int → Hp → VK → Prop} {tlo thi : TO} (q : te σ H fun x H1 => tlo σ H1 fun l H2 => thi σ H2 fun u H3 => r x l u H3 Q) : tSl r te tlo thi σ H Q := q
theorem sx_noPart {Q : Option Int → Hp → Prop} (q : Q none H) : tNoPart σ H Q := q
theorem sx_part {Q : Option Int → Hp → Prop} (q : te σ H fun x H1 => ∃ i, x = .int i ∧ Q (some i) H1) : tPart te σ H Q := q
theorem sx_isI {i : Int} {P : Int → Prop} (q : P i) : ∃ j, V.int i = .int j ∧ P j := ⟨i, rfl, q⟩
theorem sx_slL {a : Addr} {xs : List V} {lo hi : Option Int} (e : Ex B H) (hx : SqL K H a xs) (q : ∀ p H', H p = none → Nx [] B H B H' → Mu B H' p (cutV xs lo hi) → Q (.ref p) H') : rSlL K (.ref a) lo hi H Q := ⟨a, xs, rfl, hx, fun p hp => q p _ hp (Nx.own e hp) (Mu.new e hp)⟩
def rRevL (K : PySem.W.Frag) : V → Hp → VK → Prop := fun x H1 Q => ∃ a xs, x = .ref a ∧ SqL K H1 a xs ∧ ∀ p, H1 p = none → Q (.ref p) (upd H1 p (.lst xs.reverse))
theorem sx_revL (q : te σ H fun x H1 => rRevL K x H1 Q) : tRevL K te σ H Q := q
theorem sx_revL2 {a : Addr} {xs : List V} (e : Ex B H) (hx : SqL K H a xs) (q : ∀ p H', H p = none → Nx [] B H B H' → Mu B H' p xs.reverse → Q (.ref p) H') : rRevL K (.ref a) H Q := ⟨a, xs, rfl, hx, fun p hp => q p _ hp (Nx.own e hp) (Mu.new e hp)⟩
theorem cut_to (xs : List V) (n : Nat) : cutV xs none (some (n : Int)) = xs.take n := by
  unfold cutV
  rw [HT.sIx_none, HT.sIx_nat, List.drop_zero, Nat.sub_zero, List.take_eq_take_iff]
  simp
end

theorem Nx.sq {K : PySem.W.Frag} {M : List Addr} {B H B' H' : Hp} {a : Addr} {xs : List V} (n : Nx M B H B' H') (h : SqL K H a xs) (ha : a ∉ M) : SqL K H' a xs := by
  rcases h with (h | ⟨o, h⟩) | h
  · exact .inl (.inl (n.k a _ h ha))
  · exact .inl (.inr ⟨o, n.k a _ h ha⟩)
  · exact .inr h
/-! data without lists -/
mutual
def flatD : PyData → Bool
  | .list _ => false
  | .dict _ => false
  | .tuple ds => flatDs ds
  | _ => true
def flatDs : List PyData → Bool
  | [] => true
  | d :: ds => flatD d && flatDs ds
end
theorem flatDs_get {ds : List PyData} {i : Nat} {d : PyData} (h : flatDs ds = true) (e : ds[i]? = some d) : flatD d = true := by
  induction ds generalizing i with
  | nil => simp at e
  | cons x r ih =>
    unfold flatDs at h
    rw [Bool.and_eq_true] at h
    cases i with
    | zero =>
      have e' : x = d := Option.some.inj e
      rw [← e']
      exact h.1
    | succ i => exact ih h.2 e
/-! how many parts -/
mutual
def szD : PyData → Nat
  | .tuple ds => szDs ds + 1
  | _ => 1
def szDs : List PyData → Nat
  | [] => 0
  | d :: ds => szD d + szDs ds
end
def isInt : PyData → Bool
  | .int _ => true
  | .bool _ => true
  | _ => false
theorem kit_int (d : PyData) : kitB (tyD d) "int" = some (isInt d) := by
  cases d with
  | none => exact (by decide +kernel : kitB "NoneType" "int" = some false)
  | bool b => exact (by decide +kernel : kitB "bool" "int" = some true)
  | int i => exact (by decide +kernel : kitB "int" "int" = some true)
  | str z => exact (by decide +kernel : kitB "str" "int" = some false)
  | list ds => exact (by decide +kernel : kitB "list" "int" = some false)
  | tuple ds => exact (by decide +kernel : kitB "tuple" "int" = some false)
  | dict ds => exact (by decide +kernel : kitB "dict" "int" = some false)
theorem sx_isInt {K : PySem.W.Frag} {B H : Hp} {Q : VK} {x : V} {d : PyData} (h : Dp K B x d) (e : Ex B H) (q : Q (.bl (isInt d)) H) : rIsi K [x, .ty "int"] H Q := sx_isi h e (kit_int d) q
def isBool : PyData → Bool
  | .bool _ => true
  | _ => false
theorem kit_bool (d : PyData) : kitB (tyD d) "bool" = some (isBool d) := by
  cases d with
  | none => exact (by decide +kernel : kitB "NoneType" "bool" = some false)
  | bool b => exact (by decide +kernel : kitB "bool" "bool" = some true)
  | int i => exact (by decide +kernel : kitB "int" "bool" = some false)
  | str z => exact (by decide +kernel : kitB "str" "bool" = some false)
  | list ds => exact (by decide +kernel : kitB "list" "bool" = some false)
  | tuple ds => exact (by decide +kernel : kitB "tuple" "bool" = some false)
  | dict ds => exact (by decide +kernel : kitB "dict" "bool" = some false)
theorem sx_isBool {K : PySem.W.Frag} {B H : Hp} {Q : VK} {x : V} {d : PyData} (h : Dp K B x d) (e : Ex B H) (q : Q (.bl (isBool d)) H) : rIsi K [x, .ty "bool"] H Q := sx_isi h e (kit_bool d) q
def isStr : PyData → Bool
  | .str _ => true
  | _ => false
theorem kit_str (d : PyData) : kitB (tyD d) "str" = some (isStr d) := by
  cases d with
  | none => exact (by decide +kernel : kitB "NoneType" "str" = some false)
  | bool b => exact (by decide +kernel : kitB "bool" "str" = some false)
  | int i => exact (by decide +kernel : kitB "int" "str" = some false)
  | str z => exact (by decide +kernel : kitB "str" "str" = some true)
  | list ds => exact (by decide +kernel : kitB "list" "str" = some false)
  | tuple ds => exact (by decide +kernel : kitB "tuple" "str" = some false)
  | dict ds => exact (by decide +kernel : kitB "dict" "str" = some false)
theorem sx_isStr {K : PySem.W.Frag} {B H : Hp} {Q : VK} {x : V} {d : PyData} (h : Dp K B x d) (e : Ex B H) (q : Q (.bl (isStr d)) H) : rIsi K [x, .ty "str"] H Q := sx_isi h e (kit_str d) q
def isTup : PyData → Bool
  | .tuple _ => true
  | _ => false
theorem kit_tuple (d : PyData) : kitB (tyD d) "tuple" = some (isTup d) := by
  cases d with
  | none => exact (by decide +kernel : kitB "NoneType" "tuple" = some false)
  | bool b => exact (by decide +kernel : kitB "bool" "tuple" = some false)
  | int i => exact (by decide +kernel : kitB "int" "tuple" = some false)
  | str z => exact (by decide +kernel : kitB "str" "tuple" = some false)
  | list ds => exact (by decide +kernel : kitB "list" "tuple" = some false)
  | tuple ds => exact (by decide +kernel : kitB "tuple" "tuple" = some true)
  | dict ds => exact (by decide +kernel : kitB "dict" "tuple" = some false)
theorem sx_isTup {K : PySem.W.Frag} {B H : Hp} {Q : VK} {x : V} {d : PyData} (h : Dp K B x d) (e : Ex B H) (q : Q (.bl (isTup d)) H) : rIsi K [x, .ty "tuple"] H Q := sx_isi h e (kit_tuple d) q
def isList : PyData → Bool
  | .list _ => true
  | _ => false
theorem kit_list (d : PyData) : kitB (tyD d) "list" = some (isList d) := by
  cases d with
  | none => exact (by decide +kernel : kitB "NoneType" "list" = some false)
  | bool b => exact (by decide +kernel : kitB "bool" "list" = some false)
  | int i => exact (by decide +kernel : kitB "int" "list" = some false)
  | str z => exact (by decide +kernel : kitB "str" "list" = some false)
  | list ds => exact (by decide +kernel : kitB "list" "list" = some true)
  | tuple ds => exact (by decide +kernel : kitB "tuple" "list" = some false)
  | dict ds => exact (by decide +kernel : kitB "dict" "list" = some false)
theorem sx_isList {K : PySem.W.Frag} {B H : Hp} {Q : VK} {x : V} {d : PyData} (h : Dp K B x d) (e : Ex B H) (q : Q (.bl (isList d)) H) : rIsi K [x, .ty "list"] H Q := sx_isi h e (kit_list d) q
def isDict : PyData → Bool
  | .dict _ => true
  | _ => false
theorem kit_dict (d : PyData) : kitB (tyD d) "dict" = some (isDict d) := by
  cases d with
  | none => exact (by decide +kernel : kitB "NoneType" "dict" = some false)
  | bool b => exact (by decide +kernel : kitB "bool" "dict" = some false)
  | int i => exact (by decide +kernel : kitB "int" "dict" = some false)
  | str z => exact (by decide +kernel : kitB "str" "dict" = some false)
  | list ds => exact (by decide +kernel : kitB "list" "dict" = some false)
  | tuple ds => exact (by decide +kernel : kitB "tuple" "dict" = some false)
  | dict ds => exact (by decide +kernel : kitB "dict" "dict" = some true)
theorem sx_isDict {K : PySem.W.Frag} {B H : Hp} {Q : VK} {x : V} {d : PyData} (h : Dp K B x d) (e : Ex B H) (q : Q (.bl (isDict d)) H) : rIsi K [x, .ty "dict"] H Q := sx_isi h e (kit_dict d) q

/-- what is one's own changes -/
theorem Nx.loc {M : List Addr} {B H B1 H1 B2 H2 : Hp} (n : Nx [] B H B1 H1) (m : Nx M B1 H1 B2 H2) (hM : ∀ a ∈ M, H a = none) : Nx [] B H B2 H2 :=
  ⟨n.b.trans m.b, m.h, fun a o h _ => m.k a o (n.k a o h (by simp)) (fun z => by rw [hM a z] at h; cases h), fun a h q => m.f a (n.f a h q) (by
    cases e : H a with
    | none => exact absurd e q
    | some o => rw [n.k a o e (by simp)]; exact fun z => nomatch z)⟩
theorem sx_gtup2 {K : PySem.W.Frag} {B H : Hp} {σ : L2.St} {v : V} {d1 d2 : PyData} {i j : Nat} {Q : L2.St → Hp → Prop} (h : Dp K B v (.tuple [d1, d2])) (e : Ex B H) (q : ∀ v1 v2, Dp K B v1 d1 → Dp K B v2 d2 → Q ((σ.set i (some v1)).set j (some v2)) H) :
    gTup K 2 (gCons (gName i) (gCons (gName j) gNil)) v σ H Q := by
  obtain ⟨a, xs, rfl, hs, hd⟩ := Dp.tup_v h
  cases hd with
  | cons h1 h2 =>
    cases h2 with
    | cons h2 h3 =>
      cases h3
      exact ⟨a, _, rfl, e.t hs, rfl, _, _, rfl, _, _, rfl, rfl, q _ _ h1 h2⟩
theorem szDs_app : ∀ (a b : List PyData), szDs (a ++ b) = szDs a + szDs b
  | [], b => by simp [szDs]
  | x :: r, b => by
    show szD x + szDs (r ++ b) = szD x + szDs r + szDs b
    rw [szDs_app r b]
    omega
theorem flatDs_app : ∀ (a b : List PyData), flatDs (a ++ b) = (flatDs a && flatDs b)
  | [], b => by simp [flatDs]
  | x :: r, b => by
    show (flatD x && flatDs (r ++ b)) = (flatD x && flatDs r && flatDs b)
    rw [flatDs_app r b, Bool.and_assoc]
theorem szD_pos (d : PyData) : 0 < szD d := by
  cases d <;> simp [szD]
theorem szDs_len : ∀ (a : List PyData), a.length ≤ szDs a
  | [] => Nat.zero_le _
  | x :: r => by
    have h1 := szDs_len r
    have h2 := szD_pos x
    show r.length + 1 ≤ szD x + szDs r
    omega
theorem szDs_take (a : List PyData) (n : Nat) : szDs (a.take n) ≤ szDs a := by
  have h := szDs_app (a.take n) (a.drop n)
  rw [List.take_append_drop] at h
  omega
theorem flatDs_take {a : List PyData} (h : flatDs a = true) (n : Nat) : flatDs (a.take n) = true := by
  have e := flatDs_app (a.take n) (a.drop n)
  rw [List.take_append_drop, h] at e
  exact (Bool.and_eq_true_iff.mp e.symm).1

/-- a new tuple, untold -/
theorem sx_newTp {B H : Hp} {Q : VK} {xs : List V} (e : Ex B H) (hz : xs.length ≤ 100000) (q : ∀ p H', H p = none → Nx [] B H B H' → H' p = some (.tup xs) → Q (.ref p) H') : rNewT xs H Q :=
  ⟨sz_of hz, fun p hp => q p _ hp (Nx.own e hp) upd_same⟩
theorem sx_isiT3 {K : PySem.W.Frag} {B H : Hp} {Q : VK} {x : V} {d : PyData} {p : Addr} (h : Dp K B x d) (e : Ex B H) (hp : H p = some (.tup [.ty "tuple", .ty "list", .ty "dict"])) (q : Q (.bl (isTup d || (isList d || isDict d))) H) : rIsiT K [x, .ref p] H Q :=
  ⟨x, p, _, .type (tyD d), [.type "tuple", .type "list", .type "dict"], _, rfl, hp, .cons (.ty _) (.cons (.ty _) (.cons (.ty _) .nil)), Dp.ty h e, by
    have h1 := kit_ty (K := K) (kit_tuple d)
    have h2 := kit_ty (K := K) (kit_list d)
    have h3 := kit_ty (K := K) (kit_dict d)
    simp only [PySem.W.kitAny, h1, h2, h3]
    cases isTup d <;> cases isList d <;> cases isDict d <;> rfl, q⟩

/-! ### == and != with an empty list, an empty tuple -/
def rEmL (K : PySem.W.Frag) (neg : Bool) : R2 := fun x y H Q => ∃ a b xs, x = .ref a ∧ y = .ref b ∧ SqL K H a xs ∧ SqL K H b [] ∧ Q (.bl (if neg then !xs.isEmpty else xs.isEmpty)) H
def rEmT (K : PySem.W.Frag) (neg : Bool) : R2 := fun x y H Q => ∃ a b xs, x = .ref a ∧ y = .ref b ∧ SqT K H a xs ∧ SqT K H b [] ∧ Q (.bl (if neg then !xs.isEmpty else xs.isEmpty)) H
section
variable {X : Cx}
theorem op_neNilL (hu : X.A.units + 64 < cLine) : OpR X (compareOp .NotEq) (rEmL X.K true) := by
  intro pins s σ H x y v u Q I rx ry h
  obtain ⟨a, b, xs, rfl, rfl, h1, h2, q⟩ := h
  cases rx
  cases ry
  obtain ⟨its, r1, p1, _⟩ := I.list h1
  obtain ⟨its2, r2, p2, _⟩ := I.list h2
  have e2 : its2 = [] := Vals.zero r2
  subst e2
  have hu' : X.A.units < cLine := by omega
  cases xs with
  | nil =>
    have e1 : its = [] := Vals.zero r1
    subst e1
    exact SeqAt.RcNeAt.lists (e := fun _ => true) p1.isList p2.isList rfl hu' (fun j h1 _ => absurd h1 (by simp)) X.prog X.w X.xe _ ⟨.bl false, H, I, rfl, q⟩
  | cons x r =>
    refine SeqAt.RcNeAt.lists_lengths p1.isList p2.isList ?_ hu' X.prog X.w X.xe _ ⟨.bl true, H, I, rfl, q⟩
    have := r1.length
    cases its with
    | nil => simp at this
    | cons z t => simp
theorem op_eqNilL (hu : X.A.units + 64 < cLine) : OpR X (compareOp .Eq) (rEmL X.K false) := by
  intro pins s σ H x y v u Q I rx ry h
  obtain ⟨a, b, xs, rfl, rfl, h1, h2, q⟩ := h
  cases rx
  cases ry
  obtain ⟨its, r1, p1, _⟩ := I.list h1
  obtain ⟨its2, r2, p2, _⟩ := I.list h2
  have e2 : its2 = [] := Vals.zero r2
  subst e2
  have hu' : X.A.units < cLine := by omega
  cases xs with
  | nil =>
    have e1 : its = [] := Vals.zero r1
    subst e1
    exact SeqAt.RcAt.lists (e := fun _ => true) p1.isList p2.isList rfl hu' (fun j h1 _ => absurd h1 (by simp)) X.prog X.w X.xe _ ⟨.bl true, H, I, rfl, q⟩
  | cons x r =>
    refine SeqAt.RcAt.lists_lengths p1.isList p2.isList ?_ hu' X.prog X.w X.xe _ ⟨.bl false, H, I, rfl, q⟩
    have := r1.length
    cases its with
    | nil => simp at this
    | cons z t => simp
theorem op_neNilT (hu : X.A.units + 64 < cLine) : OpR X (compareOp .NotEq) (rEmT X.K true) := by
  intro pins s σ H x y v u Q I rx ry h
  obtain ⟨a, b, xs, rfl, rfl, h1, h2, q⟩ := h
  cases rx
  cases ry
  obtain ⟨its, r1, ⟨o1, ho1, hc1, n1, hd1⟩, _⟩ := I.tuple h1
  obtain ⟨its2, r2, ⟨o2, ho2, hc2, n2, hd2⟩, _⟩ := I.tuple h2
  have e2 : its2 = [] := Vals.zero r2
  subst e2
  have hu' : X.A.units < cLine := by omega
  have t1 : s.heap.IsTuple a its.toArray := ⟨_, ho1, hc1, n1, hd1⟩
  have t2 : s.heap.IsTuple b ([] : List Value).toArray := ⟨_, ho2, hc2, n2, hd2⟩
  refine SeqAt.RcNeAt.tuples (e := fun _ => true) t1 t2 hu' (fun j _ h1 => absurd h1 (by simp)) X.prog X.w X.xe _ ⟨.bl (!xs.isEmpty), H, I, ?_, q⟩
  have := r1.length
  cases xs with
  | nil =>
    have e1 : its = [] := Vals.zero r1
    subst e1
    rfl
  | cons x r =>
    cases its with
    | nil => simp at this
    | cons z t =>
      show Value.bool _ = Value.bool _
      simp
theorem op_eqNilT (hu : X.A.units + 64 < cLine) : OpR X (compareOp .Eq) (rEmT X.K false) := by
  intro pins s σ H x y v u Q I rx ry h
  obtain ⟨a, b, xs, rfl, rfl, h1, h2, q⟩ := h
  cases rx
  cases ry
  obtain ⟨its, r1, ⟨o1, ho1, hc1, n1, hd1⟩, _⟩ := I.tuple h1
  obtain ⟨its2, r2, ⟨o2, ho2, hc2, n2, hd2⟩, _⟩ := I.tuple h2
  have e2 : its2 = [] := Vals.zero r2
  subst e2
  have hu' : X.A.units < cLine := by omega
  have t1 : s.heap.IsTuple a its.toArray := ⟨_, ho1, hc1, n1, hd1⟩
  have t2 : s.heap.IsTuple b ([] : List Value).toArray := ⟨_, ho2, hc2, n2, hd2⟩
  refine SeqAt.RcAt.tuples (e := fun _ => true) t1 t2 hu' (fun j _ h1 => absurd h1 (by simp)) X.prog X.w X.xe _ ⟨.bl xs.isEmpty, H, I, ?_, q⟩
  have := r1.length
  cases xs with
  | nil =>
    have e1 : its = [] := Vals.zero r1
    subst e1
    rfl
  | cons x r =>
    cases its with
    | nil => simp at this
    | cons z t =>
      show Value.bool _ = Value.bool _
      simp
end
section
variable {K : PySem.W.Frag} {B H : Hp} {Q : VK} {x y : V}
theorem sx_emL {neg : Bool} {a b : Addr} {xs : List V} (h1 : SqL K H a xs) (h2 : SqL K H b []) (q : Q (.bl (if neg then !xs.isEmpty else xs.isEmpty)) H) : rEmL K neg (.ref a) (.ref b) H Q := ⟨a, b, xs, rfl, rfl, h1, h2, q⟩
theorem sx_neTd {ds : List PyData} (h1 : Dp K B x (.tuple ds)) (e : Ex B H) {b : Addr} (h2 : H b = some (.tup [])) (q : Q (.bl (!ds.isEmpty)) H) : rEmT K true x (.ref b) H Q := by
  obtain ⟨a, xs, rfl, hs, hd⟩ := Dp.tup_v h1
  refine ⟨a, b, xs, rfl, rfl, e.t hs, SqT.of h2, ?_⟩
  have := Dps.len hd
  cases xs <;> cases ds <;> simp_all
/-! in a display of texts -/
theorem inV_str (z : Str) (ss : List Str) : inV (.str z) (ss.map V.str) = decide (z ∈ ss) := by
  unfold inV
  induction ss with
  | nil => rfl
  | cons s r ih =>
    rw [List.map_cons, List.any_cons, ih]
    have : eqV (.str s) (.str z) = decide (s = z) := by
      show (s == z) = decide (s = z)
      rw [Bool.eq_iff_iff, beq_iff_eq, decide_eq_true_iff]
    rw [this]
    by_cases h : z = s
    · subst h; simp
    · have h' : ¬ s = z := fun e => h e.symm
      simp [h, h']
theorem flat_strs (ss : List Str) : (ss.map V.str).all flatV = true := by
  induction ss with
  | nil => rfl
  | cons s r ih => rw [List.map_cons, List.all_cons, ih]; rfl
theorem sx_inTs {p : Addr} {z : Str} (ss : List Str) (h : SqT K H p (ss.map V.str)) (q : Q (.bl (decide (z ∈ ss))) H) : rIn K false (.str z) (.ref p) H Q :=
  ⟨p, _, rfl, .inr h, rfl, flat_strs ss, by simp only [Bool.false_eq_true, if_false, inV_str]; exact q⟩
theorem sx_inLs {p : Addr} {z : Str} (ss : List Str) (h : SqL K H p (ss.map V.str)) (q : Q (.bl (decide (z ∈ ss))) H) : rIn K false (.str z) (.ref p) H Q :=
  ⟨p, _, rfl, .inl h, rfl, flat_strs ss, by simp only [Bool.false_eq_true, if_false, inV_str]; exact q⟩
end

theorem sx_neLd {K : PySem.W.Frag} {B H : Hp} {Q : VK} {neg : Bool} {b : Addr} {xs : List V} {l : Addr} (m : Mu B H l xs) (h2 : SqL K H b []) (q : Q (.bl (if neg then !xs.isEmpty else xs.isEmpty)) H) : rEmL K neg (.ref l) (.ref b) H Q := ⟨l, b, xs, rfl, rfl, m.sq, h2, q⟩

theorem at0 {α : Type} {x : α} {r : List α} : atI (x :: r) 0 = some x := atI_nat (j := 0) rfl
theorem at1 {α : Type} {x y : α} {r : List α} : atI (x :: y :: r) 1 = some y := atI_nat (j := 1) rfl
theorem at2 {α : Type} {x y z : α} {r : List α} : atI (x :: y :: z :: r) 2 = some z := atI_nat (j := 2) rfl

theorem sx_catT {K : PySem.W.Frag} {B H : Hp} {Q : VK} {a b : Addr} {xs ys : List V} (e : Ex B H) (h1 : SqT K H a xs) (h2 : SqT K H b ys) (hx : xs ≠ []) (hy : ys ≠ []) (hz : xs.length + ys.length ≤ 100000)
    (q : ∀ p H', H p = none → Nx [] B H B H' → H' p = some (.tup (xs ++ ys)) → Q (.ref p) H') : rCatT K (.ref a) (.ref b) H Q :=
  ⟨a, b, xs, ys, rfl, rfl, h1, h2, hx, sz_of hz, fun z => absurd z hy, fun _ p hp => q p _ hp (Nx.own e hp) upd_same⟩
theorem sx_extend {B H : Hp} {Q : VK} {l b : Addr} {xs ys : List V} (m : Mu B H l xs) (e : Ex B H) (hb : H b = some (.lst ys)) (hz : xs.length + ys.length ≤ 100000) (q : ∀ H', Nx [l] B H B H' → Mu B H' l (xs ++ ys) → Q .non H') : rExtend (.ref l) [.ref b] H Q :=
  ⟨l, b, xs, ys, rfl, rfl, m.h, hb, sz_of hz, q _ (m.put e) m.set⟩

section
variable {K : PySem.W.Frag} {B H : Hp} {Q : VK} {x : V}
theorem cut_from1 (xs : List V) : cutV xs (some 1) none = xs.drop 1 := by
  unfold cutV
  rw [show HT.sIx xs.length 0 (some 1) = min 1 xs.length from HT.sIx_nat xs.length 0 1, HT.sIx_none]
  cases xs with
  | nil => rfl
  | cons x r =>
    rw [show min 1 (x :: r).length = 1 by rw [List.length_cons]; omega]
    show (List.take ((x :: r).length - 1) r) = r
    rw [List.length_cons, Nat.add_sub_cancel]
    exact List.take_length
/-- t[1:] -/
theorem sx_tail {d : PyData} {ds : List PyData} (h : Dp K B x (.tuple (d :: ds))) (e : Ex B H) (q : ∀ p B' H', H p = none → Nx [] B H B' H' → Dp K B' (.ref p) (.tuple ds) → Q (.ref p) H') : rSlT K x (some 1) none H Q := by
  obtain ⟨a, xs, rfl, hs, hd⟩ := Dp.tup_v h
  have hl := Dps.len hd
  refine ⟨a, xs, rfl, e.t hs, fun z => ?_, fun p hp => ?_⟩
  · have := z.1
    rw [show HT.sIx xs.length 0 (some 1) = min 1 xs.length from HT.sIx_nat xs.length 0 1, hl, List.length_cons] at this
    omega
  · rw [cut_from1]
    have hd' := Dps.drop 1 hd
    exact q p (upd B p (.tup (xs.drop 1))) _ hp (Nx.new e hp) (.tup (SqT.of upd_same) (Dps.up (Ex.new (e.free hp)) hd'))
theorem sx_listTd {ds : List PyData} (h : Dp K B x (.tuple ds)) (e : Ex B H) (q : ∀ l xs H', H l = none → Nx [] B H B H' → Mu B H' l xs → DpAll K B xs ds → Q (.ref l) H') : rListOf K [x] H Q := by
  obtain ⟨a, xs, rfl, hs, hd⟩ := Dp.tup_v h
  exact sx_listOf e (.inr (e.t hs)) fun l H' h1 h2 h3 => q l xs H' h1 h2 h3 hd
theorem sx_cat {l b : Addr} {xs ys : List V} (e : Ex B H) (h1 : H l = some (.lst xs)) (h2 : H b = some (.lst ys)) (hz : xs.length + ys.length ≤ 100000) (q : ∀ p H', H p = none → Nx [] B H B H' → Mu B H' p (xs ++ ys) → Q (.ref p) H') : rCat (.ref l) (.ref b) H Q :=
  ⟨l, b, xs, ys, rfl, rfl, h1, h2, sz_of hz, fun p hp => q p _ hp (Nx.own e hp) (Mu.new e hp)⟩
end
theorem sx_yes {σ : L2.St} {H : Hp} {R : Bool → Hp → Prop} (q : R true H) : tYes σ H R := q

/-- sorted of two ints -/
theorem sorted2 {ns : List Int} {i j : Int} (h : ns.Perm [i, j]) (k : ns.Pairwise (· ≤ ·)) : ns = [if j < i then j else i, if j > i then j else i] := by
  have hl := h.length_eq
  match ns, hl with
  | [x, y], _ =>
    have hxy : x ≤ y := by
      cases k with
      | cons a _ => exact a y (by simp)
    have hx : x ∈ [i, j] := h.mem_iff.mp (by simp)
    simp only [List.mem_cons, List.not_mem_nil, or_false] at hx
    rcases hx with rfl | rfl
    · have h2 := (List.perm_cons x).mp h
      have : y ∈ [j] := h2.mem_iff.mp (by simp)
      rw [List.mem_singleton] at this
      subst this
      rw [if_neg (by omega)]
      by_cases h : y > x
      · rw [if_pos h]
      · rw [if_neg h, show y = x by omega]
    · have h2 := (List.perm_cons x).mp (h.trans (List.Perm.swap x i []))
      have : y ∈ [i] := h2.mem_iff.mp (by simp)
      rw [List.mem_singleton] at this
      subst this
      rw [if_neg (show ¬ x > y by omega)]
      by_cases h : x < y
      · rw [if_pos h]
      · rw [if_neg h, show x = y by omega]
theorem sx_sorted2 {K : PySem.W.Frag} {B H : Hp} {Q : VK} {a : Addr} {i j : Int} (e : Ex B H) (h : SqL K H a [.int i, .int j]) (q : ∀ p H', H p = none → Nx [] B H B H' → Mu B H' p [.int (if j < i then j else i), .int (if j > i then j else i)] → Q (.ref p) H') : rSorted K [.ref a] H Q :=
  ⟨a, [i, j], rfl, h, by show 2 < 64; omega, fun ns p hp hs hn => by
    have := sorted2 hp hs
    subst this
    exact q p _ hn (Nx.own e hn) (Mu.new e hn)⟩
/-! ### within a comprehension: the fragment told ahead -/
section
variable {X : Cx} {K : PySem.W.Frag}
theorem k_isi (h : X.K = K) : CallR X (.builtin "isinstance") (rIsi K) := h ▸ call_isi
theorem k_isiT (h : X.K = K) : CallR X (.builtin "isinstance") (rIsiT K) := h ▸ call_isiT
theorem k_len (h : X.K = K) : CallR X (.builtin "len") (rLen K) := h ▸ cl_len
theorem k_list (h : X.K = K) : CallR X (.type "list") (rListOf K) := h ▸ cl_list
theorem k_tuple (h : X.K = K) : CallR X (.type "tuple") (rTupOf K) := h ▸ cl_tuple
theorem k_ixL (h : X.K = K) : IxR X (rIxL K) := h ▸ ix_list
theorem k_ixT (h : X.K = K) : IxR X (rIxT K) := h ▸ ix_tup
theorem k_in (h : X.K = K) : OpR X (compareOp .In) (rIn K false) := h ▸ op_in_seq
theorem k_nin (h : X.K = K) : OpR X (compareOp .NotIn) (rIn K true) := h ▸ op_notIn_seq
/-- [x for x in t if isinstance(x, tuple)] -/
theorem sx_lcTups {a : Addr} {xs : List V} {ds : List PyData} {j : Nat} {tt : TT} {te : TE} {vs : List Nat} {σ : L2.St} {B H : Hp} {Q : VK} (e : Ex B H) (hx : SqT K B a xs) (hd : DpAll K B xs ds) (hz : ds.length ≤ 100000)
    (hw : ∀ x, wipe ((wipe σ vs).set j (some x)) vs = wipe σ vs)
    (ht : ∀ x d, Dp K B x d → ∀ H1 (R : Bool → Hp → Prop), Ex B H1 → R (isTup d) H1 → tt ((wipe σ vs).set j (some x)) H1 R)
    (he : ∀ x ∈ xs, ∀ H1 (R : VK), Ex B H1 → R x H1 → te ((wipe σ vs).set j (some x)) H1 R)
    (q : ∀ p ys H', H p = none → Nx [] B H B H' → Mu B H' p ys → DpAll K B ys (ds.filter isTup) → Q (.ref p) H') : rLcT K (gName j) tt te vs σ (.ref a) H Q := by
  have hl := Dps.len hd
  refine sx_lcT_by (e.t hx) (fun L i H' => H L = none ∧ ∃ ys, Nx [] B H B H' ∧ Mu B H' L ys ∧ DpAll K B ys ((ds.take i).filter isTup)) (fun L hL => ⟨hL, [], Nx.own e hL, Mu.new e hL, .nil⟩) (fun L i H' _ ⟨_, ys, n, _, _⟩ => n.h.t hx) (fun L i x H1 hi p => ?_) (fun L H' ⟨hL, ys, n, m, d⟩ => ?_)
  · obtain ⟨hL, ys, n, m, d⟩ := p
    have hm : x ∈ xs := List.mem_of_getElem? hi
    obtain ⟨d1, e1, hd1⟩ := Dps.got hd hi
    have et : (ds.take (i + 1)).filter isTup = (ds.take i).filter isTup ++ if isTup d1 then [d1] else [] := by
      rw [List.take_add_one, e1, List.filter_append]
      cases z : isTup d1 <;> simp [z]
    refine sx_gname ⟨hw x, ht x d1 hd1 H1 _ n.h ?_⟩
    rw [et]
    cases z : isTup d1 with
    | false =>
      refine ifF rfl ?_
      exact ⟨hL, ys, n, m, by simpa using d⟩
    | true =>
      refine ifT rfl (he x hm H1 _ n.h ?_)
      have hlen := Dps.len d
      have h2 := List.length_filter_le isTup (ds.take i)
      have h3 := List.length_take_le i ds
      have h4 := (List.getElem?_eq_some_iff.mp hi).1
      rw [List.length_take] at h2
      refine sx_lcEnd (P := fun H' => H L = none ∧ ∃ ys, Nx [] B H B H' ∧ Mu B H' L ys ∧ DpAll K B ys ((ds.take i).filter isTup ++ if true = true then [d1] else [])) m n.h (by omega) fun H2 n2 m2 => ⟨hL, ys ++ [x], n.loc n2 (by simp [hL]), m2, Dps.app d (Dps.one hd1)⟩
  · exact q L ys H' hL n m (by rw [hl, List.take_length] at d; exact d)
end
end G

/-! GR: tuples whose object is known: displays, tuple(list), t[::-1], dict(t). -/
namespace L2.HT
open PySem PySem.Spec PyProof.Rows
end L2.HT
namespace G
open PySem PySem.Spec PyProof.Rows L2
section
variable {prog : Program} {w : World} {A : Around} {E : Value → Shared → Prop} {s : Shared}
theorem rev_adjust (n : Nat) : Builtin.Slice.sliceAdjust none none (-1) (n : Int) = ((n : Int) - 1, -1) := by
  unfold Builtin.Slice.sliceAdjust
  rfl
theorem rev_places (n : Nat) : Builtin.Slice.slicePlaces ((n : Int) - 1) (-1) (-1) = n := by
  unfold Builtin.Slice.slicePlaces
  have h1 : ¬ ((-1 : Int) > 0) := by omega
  simp only [h1, if_false]
  have e : ((n : Int) - 1 - -1 - 1) / (- -1) = (n : Int) - 1 := by
    rw [show (- -1 : Int) = 1 by decide, Int.ediv_one]
    omega
  split
  · rw [e]
    omega
  · omega
theorem fm_congr {α β : Type} {f g : α → Option β} : ∀ {l : List α}, (∀ m ∈ l, f m = g m) → l.filterMap f = l.filterMap g
  | [], _ => rfl
  | x :: r, h => by
    rw [List.filterMap_cons, List.filterMap_cons, h x List.mem_cons_self, fm_congr fun m hm => h m (List.mem_cons_of_mem _ hm)]
theorem rev_pick (xs : Array Value) : ((List.range xs.size).filterMap fun (m : Nat) => xs[(((xs.size : Int) - 1) + (m : Int) * (-1)).toNat]?).toArray = xs.toList.reverse.toArray := by
  have e : (List.range xs.size).filterMap (fun (m : Nat) => xs[(((xs.size : Int) - 1) + (m : Int) * (-1)).toNat]?) = ((List.range xs.size).map fun k => xs.size - 1 - k).filterMap (xs[·]?) := by
    rw [List.filterMap_map]
    refine fm_congr fun m hm => ?_
    have := List.mem_range.mp hm
    show xs[_]? = xs[xs.size - 1 - m]?
    congr 1
    omega
  rw [e, PySem.W.krv_range, List.filterMap_reverse, PySem.W.krv_all]
theorem getItem_tuple_rev {t sl : Addr} {items : Array Value} {u : Tok} {Q : Value → Shared → Prop} (ht : IsTup s.heap t items) (hs : s.heap.IsSliceOf sl .none .none (.int (-1) u))
    (h : Q (.ref s.heap.objs.size) { s with heap := s.heap.push { cls := .type "tuple", data := .seq items.toList.reverse.toArray } }) (hsz : items.size ≤ sizeLine) : wpAny (model prog w) A (getItem (.ref t) (.ref sl)) Q E s := by
  have htake : sizeOk (.seq items.toList.reverse.toArray) := by
    show items.toList.reverse.toArray.size ≤ sizeLine
    rw [List.size_toArray, List.length_reverse, Array.length_toList]
    exact hsz
  obtain ⟨os, hos, hcs, hds⟩ := id hs
  have hTs : s.TypeIs (.ref sl) "slice" := ⟨os, hos, hcs⟩
  unfold getItem
  try with_reducible refine wpAny_holding ?_
  first | refine wpAny_bind (wpAny_pure ?_) | skip
  refine wpAny_bind (wpAny_sequenceKey ht.typeIs (by decide) ?_)
  refine wpAny_bind (wpAny_callSpecial?_slot (name := Str.ofString "__getitem__") ht.typeIs PyProof.Rows.slot_tuple_getitem
    (wpAny_call_entry PyProof.Rows.slot_tuple_getitem ht.typeIs entry_tuple_getitem ?_ (args_tuple_getitem _ _)))
  show wpAny _ _ (Builtin.Tuple.tupleItemsOf (.ref t) >>= _) _ _ s
  refine wpAny_bind (tupleItemsOf_ ht ?_)
  refine wpAny_bind (wpAny_typeOf hTs ?_)
  rw [if_pos (by decide)]
  have ap : ∀ {Q : Int × Int × Nat → Shared → Prop}, Q ((items.size : Int) - 1, -1, items.size) s → wpAny (model prog w) A.in1 (Builtin.Slice.sliceApplied (.ref sl) (pure (items.size : Int))) Q
      (fun e s' => E e s') s → True := fun _ _ => trivial
  refine wpAny_bind ?_
  unfold Builtin.Slice.sliceApplied Builtin.Slice.sliceFields
  refine wpAny_bind (wpAny_bind (wpAny_field hos hds (x := .none) rfl (wpAny_bind (wpAny_field hos hds (x := .none) rfl (wpAny_bind (wpAny_field hos hds (x := .int (-1) u) rfl (wpAny_pure ?_)))))))
  refine wpAny_bind (slicePart_int ?_)
  show wpAny _ _ (if ((-1 : Int) == 0) = true then _ else _) _ _ s
  rw [if_neg (by decide)]
  refine wpAny_bind (slicePart_none (wpAny_bind (slicePart_none (wpAny_bind (wpAny_pure ?_)))))
  show wpAny _ _ (match Builtin.Slice.sliceAdjust none none (-1) (items.size : Int) with | (lo, hi) => pure (lo, (-1 : Int), Builtin.Slice.slicePlaces lo hi (-1))) _ _ s
  rw [rev_adjust]
  show wpAny _ _ (pure ((items.size : Int) - 1, (-1 : Int), Builtin.Slice.slicePlaces ((items.size : Int) - 1) (-1) (-1))) _ _ s
  rw [rev_places]
  refine wpAny_pure ?_
  have hno : ¬ ((((items.size : Int) - 1) == 0 && (-1 : Int) == 1 && items.size == items.size) = true) := by simp
  show wpAny _ _ (if (((items.size : Int) - 1) == 0 && (-1 : Int) == 1 && items.size == items.size) = true then _ else _) _ _ s
  rw [if_neg hno, rev_pick]
  first
    | exact wpAny_bind (m := Builtin.Tuple.tupleExact _) (wpAny_newObj_type (wpAny_pure ⟨_, rfl, wpAny_pure h⟩) htake)
    | exact wpAny_bind (m := Builtin.Tuple.tupleExact _) (wpAny_newObj_type (wpAny_bind (wpAny_pure (wpAny_pure ⟨_, rfl, wpAny_pure h⟩))) htake)
    | exact wpAny_bind (wpAny_bind (m := Builtin.Tuple.tupleExact _) (wpAny_newObj_type (wpAny_pure (wpAny_pure ⟨_, rfl, wpAny_pure h⟩)) htake))
    | exact wpAny_bind (wpAny_bind (m := Builtin.Tuple.tupleExact _) (wpAny_newObj_type (wpAny_pure ⟨_, rfl, wpAny_pure h⟩) htake))
end
/-- a tuple whose object is known to have no dict -/
def TupO (o : Obj) : Prop := o.dict = none ∧ o.cls = .type "tuple" ∧ o.slots = #[]
section
variable {X : Cx} {es : List Expr} {e : Expr} {pos : Pos} {t : TA} {te : TE}
def rNewF (xs : List V) (H : Hp) (Q : VK) : Prop := xs.length ≤ sizeLine ∧ ∀ p o, H p = none → TupO o → Q (.ref p) (upd H p (.frz o (.tup xs)))
def tTupF (t : TA) : TE := fun σ H Q => t σ H fun xs H1 => rNewF xs H1 Q
theorem pe_tupF {x1} (h : PA X es t) : PE X (.Tuple es x1 pos) (tTupF t) := by
  refine ⟨fun pins s σ H Q I hq => ?_⟩
  refine wpAny_Tuple_spliced (thn (h.run pos pins s σ H _ I hq) fun us s1 ⟨xs, H1, I1, r, z, q⟩ => ⟨by rw [← r.length]; exact z, ?_⟩)
  have hf : H1 s1.heap.objs.size = none := I1.hok.fresh (Nat.le_refl _)
  refine ⟨.ref s1.heap.objs.size, upd H1 s1.heap.objs.size (.frz { cls := .type "tuple", data := .seq us.toArray } (.tup xs)), I1.laid (t' := s1.toks) (fun b u e => Heap.get?_push_of_some _ e) (Nat.le_refl _) ?_, rfl, q _ _ hf ⟨rfl, rfl, rfl⟩⟩
  exact ⟨Heap.get?_push_size _ rfl, z, us, r, ⟨_, Heap.get?_push_size _ rfl, rfl, _, rfl⟩⟩
/-- tuple(a list) -/
def rTupF (K : PySem.W.Frag) : List V → Hp → VK → Prop := fun xs H Q => ∃ p ys, xs = [.ref p] ∧ SqL K H p ys ∧ ∀ l o, H l = none → TupO o → Q (.ref l) (upd H l (.frz o (.tup ys)))
theorem cl_tupleF : CallR X (.type "tuple") (rTupF X.K) := by
  intro pins s σ H xs us Q I r h
  obtain ⟨p, ys, rfl, hq, q⟩ := h
  obtain ⟨u, rfl, rx⟩ := vals1 r
  cases rx
  obtain ⟨its, r', pl, hz⟩ := I.list hq
  have hlen := r'.length
  refine call_tuple_list pl.isList (fun h' kp => ?_) (by simp only [List.size_toArray] <;> omega)
  have I1 : Inv X pins σ H { s with heap := h' } := I.kept (t' := s.toks) kp
  have I2 : Inv X pins σ (upd H h'.objs.size (.frz { cls := .type "tuple", data := .seq its.toArray } (.tup ys))) { s with heap := h'.push { cls := .type "tuple", data := .seq its.toArray } } :=
    I1.laid (t' := s.toks) (fun b o e => Heap.get?_push_of_some _ e) (Nat.le_refl _) (show ObjOk X.prog X.w _ _ _ (.frz _ (.tup ys)) from ⟨Heap.get?_push_size _ rfl, hz, its, r', IsTup.new _ _⟩)
  exact ⟨.ref h'.objs.size, _, I2, rfl, q _ _ (I1.hok.fresh (Nat.le_refl _)) ⟨rfl, rfl, rfl⟩⟩
/-- t[::-1] -/
def rRevT (K : PySem.W.Frag) : V → Hp → VK → Prop := fun x H Q => ∃ a xs, x = .ref a ∧ SqT K H a xs ∧ ∀ p o, H p = none → TupO o → Q (.ref p) (upd H p (.frz o (.tup xs.reverse)))
def tRevT (K : PySem.W.Frag) (te : TE) : TE := fun σ H Q => te σ H fun x H1 => rRevT K x H1 Q
theorem pe_revT {k : Nat} {p1 p2 p3 : Pos} (he : PE X e te) : PE X (.Subscript e (.Slice none none (some (.UnaryOp .USub (.Constant (.int 1) k p1) p2)) p3) pos) (tRevT X.K te) := by
  refine ⟨fun pins s σ H Q I h => ?_⟩
  refine Subscript_ (thn (he.run pins s σ H _ I h) fun v s1 ⟨x, H1, I1, r1, q1⟩ => ?_)
  obtain ⟨a, xs, ex, hx, q⟩ := q1
  subst ex
  cases r1
  have hst : PO X (some (.UnaryOp .USub (.Constant (.int 1) k p1) p2)) (tPart (tUn (rU fun i => .int (-i)) (tC (.int 1)))) := po_some (pe_un un_neg pe_int)
  refine wpAny_Slice (thn (po_none.run pins s1 σ H1 (fun o H2 => o = none ∧ H2 = H1) I1 ⟨rfl, rfl⟩) fun vl s2 ⟨l, H2, I2, pl, el, e2⟩ => ?_)
  subst el e2
  refine thn (po_none.run pins s2 σ H2 (fun o H3 => o = none ∧ H3 = H2) I2 ⟨rfl, rfl⟩) fun vu s3 ⟨u, H3, I3, pu, eu, e3⟩ => ?_
  subst eu e3
  refine thn (hst.run pins s3 σ H3 (fun o H4 => o = some (-1) ∧ H4 = H3) I3 ⟨1, rfl, -1, rfl, rfl, rfl⟩) fun vs s4 ⟨o, H4, I4, ps, eo, e4⟩ => ?_
  subst eo e4
  have I5 : Inv X pins σ H4 { s4 with heap := s4.heap.push { cls := .type "slice", data := .fields #[vl, vu, vs] } } := I4.kept (t' := s4.toks) fun b ob q => Heap.get?_push_of_some _ q
  obtain ⟨its, r, ht, hz⟩ := I5.tuple hx
  have hlen := r.length
  cases pl
  cases pu
  cases ps with
  | int _ tk =>
    show wpAny (model X.prog X.w) X.A (subscriptTail e (.Slice none none (some (.UnaryOp .USub (.Constant (.int 1) k p1) p2)) p3) (.ref a) (.ref s4.heap.objs.size)) (EP X pins σ Q) X.xe { s4 with heap := s4.heap.push { cls := .type "slice", data := .fields #[.none, .none, .int (-1) tk] } }
    refine tail_any (ops := [.ref a, .ref s4.heap.objs.size]) ht.typeIs (PyProof.Rows.slot_tuple_getitem.lookup) ?_ (by with_unfolding_all rfl)
    refine getItem_tuple_rev ht (Heap.IsSliceOf.new _ .none .none (.int (-1) tk)) ?_ (by rw [List.size_toArray]; omega)
    refine ⟨.ref _, _, I5.laid (t' := s4.toks) (o := .frz { cls := .type "tuple", data := .seq its.reverse.toArray } (.tup xs.reverse)) (fun b ob q => Heap.get?_push_of_some _ q) (Nat.le_refl _) ?_, rfl, q _ _ (I5.hok.fresh (Nat.le_refl _)) ⟨rfl, rfl, rfl⟩⟩
    exact ⟨Heap.get?_push_size _ rfl, by rw [List.length_reverse]; exact hz, _, r.reverse, _, Heap.get?_push_size _ rfl, rfl, _, rfl⟩
theorem pairs_of2 {pins : List (Addr × Obj)} {σ : L2.St} {H : Hp} {s : Shared} (I : Inv X pins σ H s) : ∀ {ps : List Addr} {kvs : List (Key × V)}, Paired (fun p kv => SqT X.K H p [kV kv.1, kv.2]) ps kvs →
    ∃ (prs : List (Key × Value)) (vps : List (Value × Value)), KV kvs prs ∧ prs.length = ps.length ∧ vps.length = ps.length ∧ ∀ (j : Nat) (k v : Value), vps[j]? = some (k, v) → ∃ (b : Addr) (key : Key), ps[j]? = some b ∧ IsTup s.heap b #[k, v] ∧ prs[j]? = some (key, v) ∧ keyIs key k = true
  | _, _, .nil => ⟨[], [], .nil, rfl, rfl, fun j k v e => by simp at e⟩
  | _, _, .cons (a := p) (b := kv) h t => by
    obtain ⟨prs, vps, r, hl, hl2, hp⟩ := pairs_of2 I t
    obtain ⟨its, rv, ht, _⟩ := I.tuple h
    obtain ⟨u, y, ei, ru, ry⟩ := vals2 rv
    subst ei
    refine ⟨(kv.1, y) :: prs, (u, y) :: vps, .cons ⟨rfl, ry⟩ r, by rw [List.length_cons, List.length_cons, hl], by rw [List.length_cons, List.length_cons, hl2], fun j k v e => ?_⟩
    cases j with
    | zero =>
      have e' : (u, y) = (k, v) := Option.some.inj e
      cases e'
      refine ⟨p, kv.1, rfl, ht, rfl, ?_⟩
      cases hk : kv.1 with
      | inl i =>
        rw [hk] at ru
        obtain ⟨tk, rfl⟩ := (show ∃ t, u = Value.int i t from ru)
        exact keyIs_int i tk
      | inr z =>
        rw [hk] at ru
        obtain ⟨tk, rfl⟩ := (show ∃ t, u = Value.str z t from ru)
        exact keyIs_str z tk
    | succ j => exact hp j k v e
/-- dict(a tuple of pairs) -/
def rDictT (K : PySem.W.Frag) : List V → Hp → VK → Prop := fun xs H Q => ∃ (a : Addr) (o : Obj) (ps : List Addr) (kvs : List (Key × V)), xs = [.ref a] ∧ H a = some (.frz o (.tup (ps.map V.ref))) ∧ TupO o ∧ Paired (fun p kv => SqT K H p [kV kv.1, kv.2]) ps kvs ∧
  ∀ p, H p = none → Q (.ref p) (upd H p (.dK (mergeK [] kvs)))
theorem cl_dictT (hcalm : X.calm = true) : CallR X (.type "dict") (rDictT X.K) := by
  intro pins s σ H xs us Q I r q
  obtain ⟨a, o, ps, kvs, ex, hq, to, hp, q⟩ := q
  subst ex
  obtain ⟨u, eu, rx⟩ := vals1 r
  subst eu
  cases rx
  obtain ⟨ho, hz, its, rv, o2, ho2, hc2, n, hd2⟩ := (show ObjOk X.prog X.w H s.heap a (.frz o (.tup (ps.map V.ref))) from I.hok a _ hq)
  rw [ho] at ho2
  cases ho2
  have ei := refs_at rv
  subst ei
  rw [List.length_map] at hz
  obtain ⟨prs, vps, rel, hl, hl2, hpr⟩ := pairs_of2 I hp
  have ok : PlainSeq "tuple" s.heap a (ps.map Value.ref).toArray ∧ PairItems s.heap (ps.map Value.ref).toArray (fun j => (ps[j]?).getD 0) vps :=
    ⟨⟨o, n, ho, to.2.1, to.1, hd2⟩, by simp [hl2], fun j k v e => by
      obtain ⟨b, key, e1, e2, e3, e4⟩ := hpr j k v e
      refine ⟨by simp [e1], .inl ?_⟩
      obtain ⟨ob, q1, q2, q3⟩ := e2
      exact ⟨ob, by simpa [e1] using q1, q2, q3⟩⟩
  refine PySem.call_dict_pairs (knd := mixKind X.prog X.w) (kvs := prs) (PairArg.tuple a _ _ vps) (I.ok.hd hcalm) ok ⟨by rw [hl, hl2], fun i key v e => ?_⟩ (by rw [hl2]; exact hz) fun h' tk hd' k => ?_
  · obtain ⟨b, ky, e1, e2, e3, e4⟩ := hpr i key v e
    exact ⟨ky, e3, e4⟩
  · have k : ∀ b o, s.heap.get? b = some o → h'.get? b = some o := fun b o e => k b o (by simp) e
    have hm : (s.heap.objs.size == sysModules) = false := beq_eq_false_iff_ne.mpr (Nat.ne_of_gt I.big)
    have hlen : (mergeK [] kvs).length ≤ sizeLine := by
      refine Nat.le_trans (length_mergeK kvs []) ?_
      rw [List.length_nil, Nat.zero_add, rel.length, hl]
      exact hz
    exact ⟨.ref s.heap.objs.size, upd H s.heap.objs.size (.dK (mergeK [] kvs)), I.laid (t' := tk) k (Nat.le_refl _) (show ObjOk X.prog X.w _ _ _ (.dK (mergeK [] kvs)) from ⟨hlen, hm, merged [] prs, KV.merge rel .nil, hd'⟩), rfl, q _ (I.hok.fresh (Nat.le_refl _))⟩
end
section
variable {K : PySem.W.Frag} {B H : Hp} {Q : VK} {σ : L2.St} {t : TA} {te : TE}
theorem sx_tupF (q : t σ H fun xs H1 => rNewF xs H1 Q) : tTupF t σ H Q := q
theorem sx_revT (q : te σ H fun x H1 => rRevT K x H1 Q) : tRevT K te σ H Q := q
theorem fz_dp {p : Addr} {o : Obj} {xs : List V} {ds : List PyData} (e : Ex B H) (hp : H p = none) (hd : DpAll K B xs ds) : Dp K (upd B p (.frz o (.tup xs))) (.ref p) (.tuple ds) :=
  .tup (.inl (.inr ⟨o, upd_same⟩)) (Dps.up (Ex.new (e.free hp)) hd)
theorem sx_newF {xs : List V} {ds : List PyData} (e : Ex B H) (hd : DpAll K B xs ds) (hz : ds.length ≤ 100000) (q : ∀ p o B' H', H p = none → Nx [] B H B' H' → Dp K B' (.ref p) (.tuple ds) → B' p = some (.frz o (.tup xs)) → TupO o → Q (.ref p) H') : rNewF xs H Q :=
  ⟨sz_of (by rw [Dps.len hd]; exact hz), fun p o hp to => q p o _ _ hp (Nx.new e hp) (fz_dp e hp hd) upd_same to⟩
theorem sx_tupOfF {a : Addr} {xs : List V} {ds : List PyData} (e : Ex B H) (h : SqL K H a xs) (hd : DpAll K B xs ds) (q : ∀ p o B' H', H p = none → Nx [] B H B' H' → Dp K B' (.ref p) (.tuple ds) → B' p = some (.frz o (.tup xs)) → TupO o → Q (.ref p) H') : rTupF K [.ref a] H Q :=
  ⟨a, xs, rfl, h, fun p o hp to => q p o _ _ hp (Nx.new e hp) (fz_dp e hp hd) upd_same to⟩
theorem sx_revTF {a : Addr} {xs : List V} {ds : List PyData} (e : Ex B H) (h : SqT K H a xs) (hd : DpAll K B xs ds) (q : ∀ p o B' H', H p = none → Nx [] B H B' H' → Dp K B' (.ref p) (.tuple ds.reverse) → B' p = some (.frz o (.tup xs.reverse)) → TupO o → Q (.ref p) H') : rRevT K (.ref a) H Q :=
  ⟨a, xs, rfl, h, fun p o hp to => q p o _ _ hp (Nx.new e hp) (fz_dp e hp (Dps.rev hd)) upd_same to⟩
theorem sx_dictT {a : Addr} {o : Obj} {ps : List Addr} {kvs : List (Key × V)} (e : Ex B H) (hb : B a = some (.frz o (.tup (ps.map V.ref)))) (to : TupO o) (hp : Paired (fun p kv => SqT K B p [kV kv.1, kv.2]) ps kvs)
    (q : ∀ p B' H', H p = none → Nx [] B H B' H' → B' p = some (.dK (mergeK [] kvs)) → Q (.ref p) H') : rDictT K [.ref a] H Q :=
  ⟨a, o, ps, kvs, rfl, e _ _ hb, to, Paired.mapP hp fun _ _ z => e.t z, fun p h => q p _ _ h (Nx.new e h) upd_same⟩
theorem sx_dget {td ty : TE} (q : td σ H fun x H1 => ty σ H1 fun y H2 => ∃ a v, x = .ref a ∧ DGet H2 a y (some v) ∧ Q v H2) : tDGet td ty σ H Q := q
theorem sx_dgetS {a : Addr} {kvs : List (Key × V)} {z : Str} {v : V} (e : Ex B H) (hb : B a = some (.dK kvs)) (hv : valV kvs (.inr z) = some v) {Q : V → Prop} (q : Q v) : ∃ a' v, V.ref a = .ref a' ∧ DGet H a' (.str z) (some v) ∧ Q v :=
  ⟨a, v, rfl, by
    have := DGet.k (k := Sum.inr z) (e _ _ hb)
    rw [hv] at this
    exact this, q⟩
/-! ### a dict of the top, texts to defs -/
def KFn (K : PySem.W.Frag) (w : World) (mg : Str → Option Value) (a : Addr) (k x : Str) : Prop := ∃ f, mg x = some (.ref f) ∧ KDct K w a k (.ref f)
def tGD (K : PySem.W.Frag) (w : World) (mg : Str → Option Value) (ps : List (Str × Str)) : TE := fun _ H Q => ∀ a, (∀ q ∈ ps, KFn K w mg a q.1 q.2) → Q (.ref a) H
theorem pe_gD {X : Cx} {x : Str} {pos : Pos} {ps : List (Str × Str)} (hg : Gl X x) (g : ∃ a, X.mg x = some (.ref a) ∧ ∀ q ∈ ps, KFn X.K X.w X.mg a q.1 q.2) (hd : (x == ("__debug__" : Str)) = false := by decide) : PE X (.Name x pos) (tGD X.K X.w X.mg ps) := by
  obtain ⟨a, g, h⟩ := g
  refine ⟨fun pins s σ H Q I q => ld_glob I hg g ⟨.ref a, H, I, rfl, q a h⟩ hd⟩
theorem sx_GD {w : World} {mg : Str → Option Value} {ps : List (Str × Str)} (q : ∀ a, (∀ q ∈ ps, KFn K w mg a q.1 q.2) → Q (.ref a) H) : tGD K w mg ps σ H Q := q
theorem sx_ixKD {w : World} {a : Addr} {z : Str} {v : V} (h : KDct K w a z v) (q : Q v H) : rIxD K w (.ref a) (.str z) H Q := ⟨a, z, v, rfl, rfl, h, q⟩
/-! ### a call of a local that holds a def -/
def tCallV (P : Program) (w : World) (K : PySem.W.Frag) (mg : Str → Option Value) (base : Heap) (k i : Nat) (t : TA) : TE := fun σ H Q => ∃ f sp, σ[i]? = some (some (.ref f)) ∧ Held P w K mg base k f sp ∧ t σ H fun vs H1 => sp vs H1 Q (fun _ _ _ => False)
theorem pe_callV {X : Cx} {k i j : Nat} {x : Str} {p pos : Pos} {e : Expr} {es : List Expr} (hr : Room j X.A) (hk : k ≤ j) (hN : X.N[i]? = some x) (hv : Vis X.env.scope x) (ha : PA X (e :: es) t)
    (hdb : (x == ("__debug__" : Str)) = false := by decide) (hcd : (x == ("__classdict__" : Str)) = false := by decide)
    (he : starEach (e :: es) X.env = (false, eval e X.env) :: starEach es X.env := by rfl) (hpl : (backTo pos (starEach es X.env)).any (·.1) = false := by rfl) : PE X (.Call (.Name x p) (e :: es) [] pos) (tCallV X.prog X.w X.K X.mg X.base k i t) := by
  refine ⟨fun pins s σ H Q I h => ?_⟩
  obtain ⟨f, sp, hs, ⟨fd, ps, F, hk2, hb⟩, ht⟩ := h
  refine (pe_callL (i := i) (f := f) (sp := sp) (dvs := []) (E := fun _ _ _ => False) F (hr.mono hk) hN hv hk2 hb .nil (fun _ _ _ _ _ _ _ z => z.elim) ha hdb hcd he hpl).run pins s σ H Q I ⟨hs, ?_⟩
  have e0 : (fun (vs : List V) (H1 : Hp) => sp (vs ++ []) H1 Q (fun _ _ _ => False)) = fun vs H1 => sp vs H1 Q (fun _ _ _ => False) := by
    funext vs H1
    rw [List.append_nil]
  show t σ H (fun vs H1 => sp (vs ++ []) H1 Q (fun _ _ _ => False))
  rw [e0]
  exact ht
theorem sx_callV {P : Program} {w : World} {mg : Str → Option Value} {base : Heap} {k i : Nat} {f : Addr} {sp : Sp} (hs : σ[i]? = some (some (.ref f))) (h : Held P w K mg base k f sp) (q : t σ H fun vs H1 => sp vs H1 Q (fun _ _ _ => False)) : tCallV P w K mg base k i t σ H Q := ⟨f, sp, hs, h, q⟩
theorem Has.held {P : Program} {w : World} {mg : Str → Option Value} {base : Heap} {x : Str} {st : Stmt} {k : Nat} {ps : List Str} {sp : Sp} {f : Addr} (h : Has P w K mg base x st k ps sp) (hf : mg x = some (.ref f)) : Held P w K mg base k f sp := by
  obtain ⟨f', fd, F, m, n, b⟩ := h
  rw [hf] at m
  have e : f = f' := by injection m with m; injection m
  subst e
  exact ⟨fd, ps, F, n.kp, b⟩
end
/-! ### calls by keywords alone -/
def gsw {α : Type} : List α → List α → List α
  | [], [a, b] => [b, a]
  | _, _ => []
theorem kb_swap {K : PySem.W.Frag} {x p1 p2 : Str} {st : Stmt} (hb : ∀ (kV doc pm : Value) (an : Option Addr) (cdv ct a b : Value), bindArgs (PySem.W.fnOf x x (defArgs st) (defBody st) (defScope st) .none kV doc pm an cdv ct) ⟨[], [(p2, a), (p1, b)]⟩ = pure [(p1, b), (p2, a)]) :
    ∀ f fd, Fun K x x st f fd → KBinds K fd [p1, p2] [p2, p1] gsw gsw := fun f fd F => by
  obtain ⟨oc, od, kV, doc, pm, an, cdv, ct, osl, rfl, lk, hcd⟩ := F.ex
  refine ⟨fun s us ws _ hl => ?_, fun {vs us zs ws} r rz => ?_⟩
  · match us, ws, hl with
    | [], [a, b], hl => exact .of_eq (hb kV doc pm an cdv ct a b)
  · cases r with
    | cons _ _ => exact .nil
    | nil =>
      cases rz with
      | nil => exact .nil
      | cons h t =>
        cases t with
        | nil => exact .nil
        | cons h2 t2 =>
          cases t2 with
          | nil => exact .cons h2 (.cons h .nil)
          | cons h3 t3 => exact .nil
section
variable {X : Cx} {x : Str} {st : Stmt} {k j : Nat} {ps ks : List Str} {sp : Sp} {p pos : Pos} {kws : List Keyword} {tk : TA} {g : List Value → List Value → List Value} {gV : List V → List V → List V}
theorem pe_callK0H (F : Has X.prog X.w X.K X.mg X.base x st k ps sp) (kb : ∀ f fd, Fun X.K x x st f fd → KBinds X.K fd ps ks g gV) (hr : Room j X.A) (hg : Gl X x) (hkw : PK X kws tk) (hk : k ≤ j := by decide)
    (hall : (backToKw pos (keywordEach kws X.env)).all (·.1.isSome) = true := by rfl) (hks : (backToKw pos (keywordEach kws X.env)).filterMap (·.1) = ks := by rfl) (hdb : (x == ("__debug__" : Str)) = false := by decide)
    (hpl : ((backTo pos (starEach [] X.env)).any (·.1) || (backToKw pos (keywordEach kws X.env)).any (·.1.isNone)) = false := by rfl) :
    PE X (.Call (.Name x p) [] kws pos) (tCallK sp gV E0 tNil tk) := by
  obtain ⟨f, fd, F, m, fn, b⟩ := F
  refine ⟨fun pins s σ H Q I h => ?_⟩
  refine wpAny_Call_Name_kw (ld_glob I hg m ?_ hdb)
  refine PySem.W.callWith_KW0 (h₀ := X.base) I.ok.mod.kin fn.kp hall ?_ hpl
  have h : tk σ H fun zs H2 => sp (gV [] zs) H2 Q E0 := h
  refine thn (hkw.run pos pins s σ H _ I h) fun ws s2 ⟨zs, H2, I2, rz, q2⟩ => ⟨I2.kIn, ?_⟩
  rw [hks]
  exact run_fnk F (hr.mono hk) (kb f fd fn) pass0 I2 .nil rz q2
theorem sx_callK {σ : L2.St} {H : Hp} {Q : VK} {E : XK} (q : tk σ H fun zs H2 => sp (gV [] zs) H2 Q E) : tCallK sp gV E tNil tk σ H Q := q
end
/-! ### l.extend(a tuple whose object is known) -/
def rExtendT : V → List V → Hp → VK → Prop := fun x vs H Q => ∃ l b xs zs o, x = .ref l ∧ vs = [.ref b] ∧ H l = some (.lst xs) ∧ H b = some (.frz o (.tup zs)) ∧ TupO o ∧ xs.length + zs.length ≤ sizeLine ∧ Q .non (upd H l (.lst (xs ++ zs)))
theorem mt_extendT {X : Cx} : MtM X "list.extend" rExtendT := by
  intro pins s σ H x vs v us Q I rx rv h
  obtain ⟨l, b, xs, zs, o, ex, ev, hH, hB, to, hz, q⟩ := h
  subst ex ev
  cases rx
  obtain ⟨u, eu, ru⟩ := rv.one
  subst eu
  cases ru
  obtain ⟨z, its, n, r, hl, g1⟩ := I.lstM hH
  obtain ⟨ho, hz2, its2, r2, o2, ho2, hc2, n2, hd2⟩ := (show ObjOk X.prog X.w H s.heap b (.frz o (.tup zs)) from I.hok b _ hB)
  rw [ho] at ho2
  cases ho2
  have hl2 := r2.length
  have g2 : s.heap.get? b = some { cls := .type "tuple", dict := none, data := .seq its2.toArray n2, slots := #[] } := by
    rw [ho]
    obtain ⟨cls, dd, data, sl⟩ := o
    obtain ⟨t1, t2, t3⟩ := to
    simp only at t1 t2 t3 hd2
    subst t1 t2 t3 hd2
    rfl
  have fits : its.toArray.size + its2.toArray.size ≤ sizeLine := by
    rw [List.size_toArray, List.size_toArray]
    omega
  have door : ¬ (!its.toArray.isEmpty && Builtin.List.listTooLong (its.toArray.size + its2.toArray.size)) = true := by
    rw [notLongL fits, Bool.and_false]
    exact Bool.false_ne_true
  refine call_meets PySem.F.slot_list_extend ⟨_, g1, rfl⟩ PySem.F.entry_list_extend (PySem.F.args_list_extend_2 _ _) (AutoSeq1.list_extend_list_tuple_0 l its.toArray n b its2.toArray n2 door (by rw [List.size_toArray]; omega) (by omega)) ⟨g1, g2, ?_⟩
  exact ⟨.non, _, I.lset (its' := its ++ its2) hH g1 (by simp) (r.append r2) (by rw [List.length_append]; omega), rfl, q⟩
theorem sx_extendT {B H : Hp} {Q : VK} {l b : Addr} {o : Obj} {xs ys : List V} (m : Mu B H l xs) (e : Ex B H) (hb : B b = some (.frz o (.tup ys))) (to : TupO o) (hz : xs.length + ys.length ≤ 100000) (q : ∀ H', Nx [l] B H B H' → Mu B H' l (xs ++ ys) → Q .non H') : rExtendT (.ref l) [.ref b] H Q :=
  ⟨l, b, xs, ys, o, rfl, rfl, m.h, e _ _ hb, to, sz_of hz, q _ (m.put e) m.set⟩
/-! ### list(a text) -/
theorem vals_of : ∀ {xs : List V} {vs : List Value}, xs.length = vs.length → (∀ (j : Nat) x v, xs[j]? = some x → vs[j]? = some v → RelV x v) → Vals xs vs
  | [], [], _, _ => .nil
  | [], _ :: _, h, _ => by cases h
  | _ :: _, [], h, _ => by cases h
  | x :: xs, v :: vs, h, k => .cons (k 0 x v rfl rfl) (vals_of (by simpa using h) fun j a b h1 h2 => k (j + 1) a b h1 h2)
def sgs (x : Str) : List Str := x.cps.toList.map fun c => ⟨#[c]⟩
def rListS : List V → Hp → VK → Prop := fun xs H Q => ∃ x : Str, xs = [.str x] ∧ x.cps.size ≤ sizeLine ∧ ∀ l, H l = none → Q (.ref l) (upd H l (.lst ((sgs x).map V.str)))
theorem cl_listS {X : Cx} (hc : X.calm = true) : CallR X (.type "list") rListS := by
  intro pins s σ H xs us Q I r h
  obtain ⟨x, ex, hz, q⟩ := h
  subst ex
  obtain ⟨u, eu, rx⟩ := vals1 r
  subst eu
  obtain ⟨t, et⟩ := rx
  subst et
  refine call_list_str (I.ok.hd hc) x t (fun h' tk acc c k hS hacc => ?_) hz
  have hlen : (sgs x).length = x.cps.size := by unfold sgs; rw [List.length_map, Array.length_toList]
  have rel : Vals ((sgs x).map V.str) acc.toList := by
    refine vals_of (by rw [List.length_map, hlen, Array.length_toList, hacc.1]) fun j a b h1 h2 => ?_
    obtain ⟨cc, uu, hcc, eb⟩ := hacc.2 j b (by simpa using h2)
    subst eb
    rw [List.getElem?_map] at h1
    have e1 : (sgs x)[j]? = some ⟨#[cc]⟩ := by simp [sgs, hcc]
    rw [e1] at h1
    cases h1
    exact ⟨_, rfl⟩
  refine ⟨.ref s.heap.objs.size, upd H s.heap.objs.size (.lst ((sgs x).map V.str)), I.laid (t' := tk) k (Nat.le_refl _) (show ObjOk X.prog X.w _ _ _ (.lst ((sgs x).map V.str)) from ⟨by rw [List.length_map, hlen]; exact hz, acc.toList, c, rel, hS⟩), rfl, q _ (I.hok.fresh (Nat.le_refl _))⟩
theorem sx_listS {B H : Hp} {Q : VK} {x : Str} {ss : List Str} (hs : sgs x = ss) (hz : x.cps.size ≤ 100000) (e : Ex B H) (q : ∀ l H', H l = none → Nx [] B H B H' → Mu B H' l (ss.map V.str) → Q (.ref l) H') : rListS [.str x] H Q := by
  subst hs
  exact ⟨x, rfl, sz_of hz, fun l hl => q l _ hl (Nx.own e hl) (Mu.new e hl)⟩
/-! ### range(i, j, -1) -/
section
variable {g : TG} {tt : TT} {te : TE} {tb : TS} {vs : List Nat} {D : Ends} {σ : L2.St} {H : Hp} {Q : VK} {ta : TA}
def rForD (g : TG) (tb : TS) (D : Ends) (σ : L2.St) (us : List V) (H : Hp) : Prop := ∃ (i j c : Int) (n : Nat), us = [.int i, .int j, .int c] ∧ RgC i j c n ∧ ∃ W : Nat → Nat → L2.St → Hp → Prop, (∃ m, W 0 m σ H) ∧ ∀ k m σ H, W k m σ H →
  ((Itc i c n).stop k H ∧ D.nx σ H) ∨ ((Itc i c n).go k H ∧ ∃ N : L2.St → Hp → Prop, (∀ σ' H', N σ' H' → ∃ m', m' < m ∧ W (k + 1) m' σ' H') ∧ ∀ x H', (Itc i c n).yld k H x H' → g x σ H' fun σ2 H2 => tb { D with nx := N, ct := N, bk := D.nx } σ2 H2)
theorem sx_forD (q : ta σ H fun us H1 => rForD g tb D σ us H1) : tFor (iRng3 ta) g tb D σ H := q
theorem sx_forD_by {i j : Int} (hi : -1000000 ≤ i ∧ i ≤ 1000000) (hj : -1000000 ≤ j ∧ j ≤ 1000000) (Pv : Nat → L2.St → Hp → Prop) (h0 : Pv 0 σ H)
    (hs : ∀ (k : Nat) σ H, (k : Int) < i - j → Pv k σ H → g (.int (i - k)) σ H fun σ2 H2 => tb { D with nx := Pv (k + 1), ct := Pv (k + 1), bk := D.nx } σ2 H2) (hd : ∀ σ H, Pv (i - j).toNat σ H → D.nx σ H) : rForD g tb D σ [.int i, .int j, .int (0 - 1)] H := by
  refine ⟨i, j, -1, (i - j).toNat, rfl, RgC.neg (by omega) (by omega) (by omega) (by omega), fun k m σ H => m = (i - j).toNat - k ∧ k ≤ (i - j).toNat ∧ Pv k σ H, ⟨_, rfl, Nat.zero_le _, h0⟩, fun k m σ H ⟨em, hk, p⟩ => ?_⟩
  subst em
  by_cases z : k < (i - j).toNat
  · refine .inr ⟨z, Pv (k + 1), fun σ' H' p' => ⟨_, by omega, rfl, z, p'⟩, fun x H' y => ?_⟩
    obtain ⟨e1, e2⟩ := y
    subst e1 e2
    rw [show i + (k : Int) * -1 = i - k by omega]
    exact hs k σ _ (by omega) p
  · have e : k = (i - j).toNat := by omega
    subst e
    exact .inl ⟨Nat.le_refl _, hd σ H p⟩
def rLcD (g : TG) (tt : TT) (te : TE) (vs : List Nat) (σ : L2.St) (us : List V) (H : Hp) (Q : VK) : Prop := ∃ (i j c : Int) (n : Nat), us = [.int i, .int j, .int c] ∧ RgC i j c n ∧ ∀ L, H L = none → ∃ W : Nat → Nat → Hp → Prop, (∃ m, W 0 m (upd H L (.lst []))) ∧ ∀ k m H, W k m H →
  ((Itc i c n).stop k H ∧ Q (.ref L) H) ∨ ((Itc i c n).go k H ∧ ∃ N : Hp → Prop, (∀ H', N H' → ∃ m', m' < m ∧ W (k + 1) m' H') ∧ ∀ x H', (Itc i c n).yld k H x H' → g x (wipe σ vs) H' fun σ2 H2 => wipe σ2 vs = wipe σ vs ∧ tt σ2 H2 fun b H3 =>
    if b = true then te σ2 H3 fun y H4 => ∃ acc, H4 L = some (.lst acc) ∧ acc.length < sizeLine ∧ N (upd H4 L (.lst (acc ++ [y]))) else N H3)
theorem sx_lcD (q : ta σ H fun us H1 => rLcD g tt te vs σ us H1 Q) : tLc (iRng3 ta) g tt te vs σ H Q := q
theorem sx_lcD_by {i j : Int} (hi : -1000000 ≤ i ∧ i ≤ 1000000) (hj : -1000000 ≤ j ∧ j ≤ 1000000) (Pv : Addr → Nat → Hp → Prop) (h0 : ∀ L, H L = none → Pv L 0 (upd H L (.lst [])))
    (hs : ∀ L (k : Nat) H, (k : Int) < i - j → Pv L k H → g (.int (i - k)) (wipe σ vs) H fun σ2 H2 => wipe σ2 vs = wipe σ vs ∧ tt σ2 H2 fun b H3 =>
      if b = true then te σ2 H3 fun y H4 => ∃ acc, H4 L = some (.lst acc) ∧ acc.length < sizeLine ∧ Pv L (k + 1) (upd H4 L (.lst (acc ++ [y]))) else Pv L (k + 1) H3) (hd : ∀ L H, Pv L (i - j).toNat H → Q (.ref L) H) : rLcD g tt te vs σ [.int i, .int j, .int (0 - 1)] H Q := by
  refine ⟨i, j, -1, (i - j).toNat, rfl, RgC.neg (by omega) (by omega) (by omega) (by omega), fun L hL => ⟨fun k m H => m = (i - j).toNat - k ∧ k ≤ (i - j).toNat ∧ Pv L k H, ⟨_, rfl, Nat.zero_le _, h0 L hL⟩, fun k m H ⟨em, hk, p⟩ => ?_⟩⟩
  subst em
  by_cases z : k < (i - j).toNat
  · refine .inr ⟨z, Pv L (k + 1), fun H' p' => ⟨_, by omega, rfl, z, p'⟩, fun x H' y => ?_⟩
    obtain ⟨e1, e2⟩ := y
    subst e1 e2
    rw [show i + (k : Int) * -1 = i - k by omega]
    exact hs L k _ (by omega) p
  · have e : k = (i - j).toNat := by omega
    subst e
    exact .inl ⟨Nat.le_refl _, hd L H p⟩
end
/-! ### t + u of any tuples; t[:n], t[n:] -/
def rCatE (K : PySem.W.Frag) : R2 := fun x y H Q => ∃ a b xs ys, x = .ref a ∧ y = .ref b ∧ SqT K H a xs ∧ SqT K H b ys ∧ xs.length + ys.length ≤ sizeLine ∧
  (xs = [] → Q (.ref b) H) ∧ (xs ≠ [] → ys = [] → Q (.ref a) H) ∧ (xs ≠ [] → ys ≠ [] → ∀ p, H p = none → Q (.ref p) (upd H p (.tup (xs ++ ys))))
theorem op_catE {X : Cx} : OpR X (binaryOp .Add) (rCatE X.K) := by
  intro pins s σ H x y v u Q I rx ry h
  obtain ⟨a, b, xs, ys, ex, ey, ha, hb, hz, q0, q1, q2⟩ := h
  by_cases hx : xs = []
  · subst ex ey
    cases rx
    cases ry
    obtain ⟨its, r1, p1, _⟩ := I.tuple ha
    obtain ⟨its2, r2, p2, _⟩ := I.tuple hb
    have hv : its = [] := r1.nil_iff.mpr hx
    obtain ⟨o1, g1, c1, n1, d1⟩ := p1
    obtain ⟨o2, g2, c2, n2, d2⟩ := p2
    obtain ⟨cls, dd, data, sl⟩ := o1
    obtain ⟨cls2, dd2, data2, sl2⟩ := o2
    simp only at c1 d1 c2 d2
    subst c1 d1 c2 d2
    have hm := _root_.PyProof.Rows.tuple_addW0 a b its.toArray its2.toArray n1 n2 dd dd2 sl sl2 (by rw [hv]; rfl)
    exact concat_meets ⟨_, g1, rfl⟩ ⟨_, g2, rfl⟩ noFill_tuple_add seq_tuple_add PySem.F.slot_tuple_add PySem.F.entry_tuple_add (PySem.F.args_tuple_add_2 _ _)
      hm ⟨g1, g2, ⟨.ref b, H, I, rfl, q0 hx⟩⟩
  · exact op_catT pins s σ H x y v u Q I rx ry ⟨a, b, xs, ys, ex, ey, ha, hb, hx, hz, fun z => q1 hx z, fun z => q2 hx z⟩
theorem sx_catE {K : PySem.W.Frag} {B H : Hp} {Q : VK} {x y : V} {ds es : List PyData} (e : Ex B H) (h1 : Dp K B x (.tuple ds)) (h2 : Dp K B y (.tuple es)) (hz : ds.length + es.length ≤ 100000)
    (q : ∀ v B' H', Nx [] B H B' H' → Dp K B' v (.tuple (ds ++ es)) → Q v H') : rCatE K x y H Q := by
  obtain ⟨a, xs, rfl, hs, hd⟩ := Dp.tup_v h1
  obtain ⟨b, ys, rfl, hs2, hd2⟩ := Dp.tup_v h2
  have l1 := Dps.len hd
  have l2 := Dps.len hd2
  refine ⟨a, b, xs, ys, rfl, rfl, e.t hs, e.t hs2, sz_of (by rw [l1, l2]; exact hz), fun z => ?_, fun _ z => ?_, fun _ _ p hp => ?_⟩
  · subst z
    have : ds = [] := List.length_eq_zero_iff.mp l1.symm
    subst this
    exact q _ B H (Nx.refl e) h2
  · subst z
    have : es = [] := List.length_eq_zero_iff.mp l2.symm
    subst this
    exact q _ B H (Nx.refl e) (by rw [List.append_nil]; exact h1)
  · exact q _ (upd B p (.tup (xs ++ ys))) _ (Nx.new e hp) (.tup (SqT.of upd_same) (Dps.up (Ex.new (e.free hp)) (Dps.app hd hd2)))
theorem cut_from (xs : List V) (n : Nat) : cutV xs (some (n : Int)) none = xs.drop n := by
  unfold cutV
  rw [show HT.sIx xs.length 0 (some (n : Int)) = min n xs.length from HT.sIx_nat xs.length 0 n, HT.sIx_none]
  by_cases h : n ≤ xs.length
  · rw [Nat.min_eq_left h, List.take_of_length_le (by rw [List.length_drop]; exact Nat.le_refl _)]
  · rw [Nat.min_eq_right (by omega), List.drop_of_length_le (Nat.le_refl _), List.drop_of_length_le (by omega)]
    exact List.take_nil
theorem sx_slTo {K : PySem.W.Frag} {B H : Hp} {Q : VK} {x : V} {ds : List PyData} {n : Nat} (h : Dp K B x (.tuple ds)) (e : Ex B H) (hn : n < ds.length) (q : ∀ p B' H', H p = none → Nx [] B H B' H' → Dp K B' (.ref p) (.tuple (ds.take n)) → Q (.ref p) H') : rSlT K x none (some (n : Int)) H Q := by
  obtain ⟨a, xs, rfl, hs, hd⟩ := Dp.tup_v h
  have hl := Dps.len hd
  refine ⟨a, xs, rfl, e.t hs, fun z => ?_, fun p hp => ?_⟩
  · have := z.2
    rw [show HT.sIx xs.length xs.length (some (n : Int)) = min n xs.length from HT.sIx_nat xs.length xs.length n, hl] at this
    omega
  · rw [cut_to]
    exact q p (upd B p (.tup (xs.take n))) _ hp (Nx.new e hp) (.tup (SqT.of upd_same) (Dps.up (Ex.new (e.free hp)) (Dps.take n hd)))
theorem sx_slFrom {K : PySem.W.Frag} {B H : Hp} {Q : VK} {x : V} {ds : List PyData} {n : Nat} (h : Dp K B x (.tuple ds)) (e : Ex B H) (hn : 0 < n) (h0 : 0 < ds.length) (q : ∀ p B' H', H p = none → Nx [] B H B' H' → Dp K B' (.ref p) (.tuple (ds.drop n)) → Q (.ref p) H') : rSlT K x (some (n : Int)) none H Q := by
  obtain ⟨a, xs, rfl, hs, hd⟩ := Dp.tup_v h
  have hl := Dps.len hd
  refine ⟨a, xs, rfl, e.t hs, fun z => ?_, fun p hp => ?_⟩
  · have := z.1
    rw [show HT.sIx xs.length 0 (some (n : Int)) = min n xs.length from HT.sIx_nat xs.length 0 n, hl] at this
    omega
  · rw [cut_from]
    exact q p (upd B p (.tup (xs.drop n))) _ hp (Nx.new e hp) (.tup (SqT.of upd_same) (Dps.up (Ex.new (e.free hp)) (Dps.drop n hd)))
theorem k_catE {X : Cx} {K : PySem.W.Frag} (h : X.K = K) : OpR X (binaryOp .Add) (rCatE K) := h ▸ op_catE
end G

/-! GX: errors of classes over Exception by one class between, with an __init__ that keeps one or two things; defs that raise; a try whose first clause takes. -/
namespace GX
open PySem PySem.W PySem.Calls PyProof.Rows PySem.HandSPX
/-! ### the chain of such a class -/
abbrev eTail : List Value := [.type "Exception", .type "BaseException", .type "object"]
abbrev chain (b : Addr) : List Value := .ref b :: eTail
open Builtin Builtin.ObjectAttr in
theorem chain_pass (self : Value) (C b : Addr) : refuseLoop self "__setattr__" (.ref C :: chain b) = pure () := by
  rw [refuseLoop_ref, refuseLoop_ref]
  exact F.store_Exception.passes self
theorem chain_has (b : Addr) (X : String) : (chain b).contains (.type X) = eTail.contains (.type X) := by
  rw [List.contains_cons]
  rfl
theorem chain_obj (C b : Addr) : (Value.ref C :: chain b).contains (.type "object") = true := by
  rw [List.contains_cons, chain_has]
  rfl
section
open Builtin Builtin.ObjectAttr
variable {prog : Program} {w : World} {A : Around} {R : Result → Shared → Prop} {hp : Heap} {g : Array GenState} {d : Drawn} {t : Nat} {os : OsState}
/-- the first thing kept -/
theorem keep_first {K : W.Frag} {name : Str} {tk : Tok} {v : Value} {x C b : Addr} {fv : Array Value} {cd : ClassData} (X : K.In hp) (hx : hp.get? x = some { cls := .ref C, data := .fields fv }) (hcd : W.clsIn K C = some cd) (hm : cd.mro = .ref C :: chain b)
    (hh : cd.hasDict = true) (ha : W.findIn K (.ref C) name = some none) (hq : ∀ h' tk' dx, (∀ b o, b ≠ x → hp.get? b = some o → h'.get? b = some o) → hp.objs.size ≤ dx → dx ≠ x → h'.get? x = some { cls := .ref C, dict := some dx, data := .fields fv } → h'.Ns1 dx (fun y => if y = name then some v else none) → R (.ok (.ret .none)) ⟨h', g, d, tk', os⟩) :
    codeAny (model prog w) A (.call (.builtin "object.__setattr__") ⟨[.ref x, .str name tk, v], []⟩) R ⟨hp, g, d, t, os⟩ := by
  have hn0 : cd.mro.isEmpty = false := by rw [hm]; rfl
  have ho0 : cd.mro.contains (.type "object") = true := by rw [hm]; exact chain_obj C b
  have hsz : x ≠ hp.objs.size := Nat.ne_of_lt (Heap.lt_size hx)
  have I : W.InstAt hp x { cls := .ref C, data := .fields fv } C none := ⟨hx, rfl, rfl, trivial⟩
  have S := F.store_object
  have isO : W.Looks (model prog w) hp (isInstance (.ref x) (.type "object")) true := I.type.andThen (W.looks_mroIn X (by unfold W.mroIn; rw [hcd, Option.bind_some, if_neg (by rw [hn0]; decide), ho0]))
  refine codeAny_call_builtin S.slot.plain S.entry (@W.check_slot (model prog w) _ _ ⟨hp, g, d, t, os⟩ "object.__setattr__" "object" "__setattr__" (.ref x) [.str name tk, v] [] _ S.kind S.split isO (S.args (.ref x) (.str name tk) v) ?_)
  have m1 : W.Looks (model prog w) hp (mroOf (.ref C)) cd.mro := (W.looks_clsIn X hcd).andThen .now
  have m2 : W.Looks (model prog w) hp (storeTaker? none) none := .now
  have m3 : W.Looks (model prog w) hp (classData C) cd := W.looks_clsIn X hcd
  rw [W.osa_eq, refuse_eq]
  refine wpAny_bind (wpAny_bind (I.type.at (wpAny_bind (m1.at ?_))))
  rw [hm, chain_pass]
  refine wpAny_pure (wpAny_bind (I.type.at (wpAny_bind ((W.looks_findIn X ha).at (wpAny_bind (m2.at ?_))))))
  show wpAny _ _ (storeInOwnDict (.ref x) (.ref C) (.str name tk) name v false) _ _ _
  obtain ⟨nm, bs, mro, ns, qn, hd, sn, sb, ab, col, del⟩ := cd
  dsimp only at hh
  subst hh
  unfold storeInOwnDict ownDictForStores
  repeat (first | with_reducible refine store_in_new ?_ ?_ | with_reducible refine wpAny_loadPart_at hx ?_ | with_reducible refine m3.at ?_ | wp_step)
  · exact ⟨_, #[], _, (Heap.get?_update_ne _ _ _ _ hsz.symm).trans (Heap.get?_push_at rfl rfl), rfl, fun e he => absurd he (by simp), fun _ => rfl⟩
  · intro h' tk' hn' hs
    have hx1 : (hp.push { cls := .type "dict", data := .dict #[] }).get? x = some { cls := .ref C, data := .fields fv } := Heap.get?_push_of_some _ hx
    refine hq h' tk' hp.objs.size (fun b o hb ho => ?_) (Nat.le_refl _) hsz.symm ((hs.2 x hsz).trans (Heap.get?_update_self _ hx1 rfl)) hn'
    exact (hs.2 b (Nat.ne_of_lt (Heap.lt_size ho))).trans ((Heap.get?_update_ne _ _ _ _ hb).trans (Heap.get?_push_of_some _ ho))
/-- one more -/
theorem keep_next {K : W.Frag} {name : Str} {tk : Tok} {v : Value} {x C b dx : Addr} {fv : Array Value} {cd : ClassData} {m0 : Str → Option Value} {nl : List Str} (X : K.In hp) (hx : hp.get? x = some { cls := .ref C, dict := some dx, data := .fields fv }) (hns : hp.Ns1 dx m0)
    (hw : Within m0 nl) (hz : nl.length ≤ 1000) (hcd : W.clsIn K C = some cd) (hm : cd.mro = .ref C :: chain b) (hh : cd.hasDict = true) (ha : W.findIn K (.ref C) name = some none)
    (hq : ∀ h' tk', (∀ b o, b ≠ dx → hp.get? b = some o → h'.get? b = some o) → h'.Ns1 dx (fun y => if y = name then some v else m0 y) → R (.ok (.ret .none)) ⟨h', g, d, tk', os⟩) :
    codeAny (model prog w) A (.call (.builtin "object.__setattr__") ⟨[.ref x, .str name tk, v], []⟩) R ⟨hp, g, d, t, os⟩ := by
  obtain ⟨oD, _, _, hoD, _, _⟩ := hns.count hw
  have hn0 : cd.mro.isEmpty = false := by rw [hm]; rfl
  have ho0 : cd.mro.contains (.type "object") = true := by rw [hm]; exact chain_obj C b
  have I : W.InstAt hp x { cls := .ref C, dict := some dx, data := .fields fv } C (some oD) := ⟨hx, rfl, rfl, hoD⟩
  have S := F.store_object
  have isO : W.Looks (model prog w) hp (isInstance (.ref x) (.type "object")) true := I.type.andThen (W.looks_mroIn X (by unfold W.mroIn; rw [hcd, Option.bind_some, if_neg (by rw [hn0]; decide), ho0]))
  refine codeAny_call_builtin S.slot.plain S.entry (@W.check_slot (model prog w) _ _ ⟨hp, g, d, t, os⟩ "object.__setattr__" "object" "__setattr__" (.ref x) [.str name tk, v] [] _ S.kind S.split isO (S.args (.ref x) (.str name tk) v) ?_)
  have m1 : W.Looks (model prog w) hp (mroOf (.ref C)) cd.mro := (W.looks_clsIn X hcd).andThen .now
  have m2 : W.Looks (model prog w) hp (storeTaker? none) none := .now
  have m3 : W.Looks (model prog w) hp (classData C) cd := W.looks_clsIn X hcd
  rw [W.osa_eq, refuse_eq]
  refine wpAny_bind (wpAny_bind (I.type.at (wpAny_bind (m1.at ?_))))
  rw [hm, chain_pass]
  refine wpAny_pure (wpAny_bind (I.type.at (wpAny_bind ((W.looks_findIn X ha).at (wpAny_bind (m2.at ?_))))))
  show wpAny _ _ (storeInOwnDict (.ref x) (.ref C) (.str name tk) name v false) _ _ _
  obtain ⟨nm, bs, mro, ns, qn, hd, sn, sb, ab, col, del⟩ := cd
  dsimp only at hh
  subst hh
  unfold storeInOwnDict ownDictForStores
  repeat (first | with_reducible refine PySem.OEX.store_in_old hns hw hz ?_ | with_reducible refine wpAny_loadPart_at hx ?_ | with_reducible refine m3.at ?_ | wp_step)
  intro h' tk' hn' hs
  exact hq h' tk' (fun b o hb ho => (hs.2 b hb).trans ho) hn'
end
/-! ### the text of __init__, of one thing or two -/
def nArg (x : Str) (p : Pos) : Arg := { arg := x, annotation := none, pos := p }
def nA (as : List Arg) : Arguments := { posonlyargs := [], args := as, vararg := none, kwonlyargs := [], kw_defaults := [], kwarg := none, defaults := [] }
def nSet (x : Str) (q1 q2 q3 q4 : Pos) : Stmt := .Assign [.Attribute (.Name "self" q1) x q2] (.Name x q3) q4
def nS (xs : List Str) : Scope := { kind := .function, names := (PySem.Str.ofString "self", .local) :: xs.map (fun x => (x, .local)), isGenerator := false, isCoroutine := false, more := [] }
/-- what the written part says of such a class at C, named x, of its __init__ at fI -/
structure ErrC (K : Frag) (mg : Str → Option Value) (x : Str) (xs : List Str) (C fI : Addr) : Prop where
  gC : mg x = some (.ref C)
  cls : ∃ nm q N bs b sn sub ab col dd k0 k1 k2 k3 k5, K.lookup C = some (excClassObj nm q C N bs (chain b) true sn sub ab col dd k0 k1 k2 k3 k5 "Exception.__new__")
  sa : findIn K (.ref C) "__setattr__" = some (some (.builtin "object.__setattr__"))
  ga : findIn K (.ref C) "__getattribute__" = some (some (.builtin "BaseException.__getattribute__"))
  gg : findIn K (.ref C) "__getattr__" = some none
  noN : ∀ y ∈ xs, findIn K (.ref C) y = some none
  iC : findIn K (.ref C) "__init__" = some (some (.ref fI))
  tC : typeIn K (.ref fI) = some (.type "function")
  kC : keepIn K (.ref C) = true
  exC : subIn K (.ref C) (.type "BaseException") = some true
  tyC : typeIn K (.ref C) = some (.type "type")
  hdC : hasDictIn K C = true
  te : exmOne K (.ref C) (.ref C) = some true
theorem ErrC.xf {K : Frag} {mg : Str → Option Value} {x : Str} {xs : List Str} {C fI : Addr} (T : ErrC K mg x xs C fI) : L2.XfC K C := ⟨T.ga, T.gg, T.exC, T.hdC⟩
theorem one_size (v : Value) : [v].length ≤ sizeLine := by
  rw [sizeLine_eq]
  exact (by decide : 1 ≤ 16777216)
/-- what __init__ leaves of a new error at x -/
structure Made (h h' : Heap) (x C dx t1 : Addr) (m : Str → Option Value) : Prop where
  keep : ∀ b o, b ≠ x → h.get? b = some o → h'.get? b = some o
  obj : h'.get? x = some { cls := .ref C, dict := some dx, data := .fields #[.ref t1, .none, .none, .none, .bool false, .none] }
  dbig : h.objs.size ≤ dx
  dne : dx ≠ x
  ns : h'.Ns1 dx m
structure Got (h h' : Heap) (e C d : Addr) (m : Str → Option Value) : Prop where
  keep : ∀ b o, h.get? b = some o → h'.get? b = some o
  new : h.objs.size ≤ e
  obj : ∃ oe vs, h'.get? e = some oe ∧ oe.cls = .ref C ∧ oe.dict = some d ∧ oe.data = .fields vs ∧ vs[1]? = some .none
  dbig : h.objs.size ≤ d
  dne : d ≠ e
  ns : h'.Ns1 d m
theorem ld_own {M : Model} {s : Shared} {name : Str} {scope : Scope} {L a : Addr} {cd : Value} {m : Str → Option Value} {x : Str} {pos : Pos} {v : Value} {Q : Value → Shared → Prop} {A : Around} {E : Value → Shared → Prop} (hn : s.heap.Ns L m)
    (hv : m x = some v) (h : Q v s) (hk : scope.kind = .function := by rfl) (hl : (envOfC name scope L a cd).kindOf x = some .local := by rfl) (hd : (x == ("__debug__" : Str)) = false := by decide) : wpAny M A (eval (.Name x pos) (envOfC name scope L a cd)) Q E s := wpAny_Name (wpAny_loadName_local hk hl hn hv h) hd
section
variable {K : Frag} {mg : Str → Option Value} {C fI : Addr} {x : Str} {xs : List Str}
theorem ErrC.cd (T : ErrC K mg x xs C fI) : ∃ cd b, clsIn K C = some cd ∧ cd.mro = .ref C :: chain b ∧ cd.hasDict = true := by
  obtain ⟨nm, q, N, bs, b, sn, sub, ab, col, dd, k0, k1, k2, k3, k5, hC⟩ := T.cls
  exact ⟨{ name := nm, bases := bs, mro := .ref C :: chain b, ns := N, qualname := q, hasDict := true, slotNames := sn, subclasses := sub, abstract := ab, collection := col, hasDel := false }, b, by unfold clsIn; rw [hC] <;> rfl, rfl, rfl⟩
end
/-- .. of one thing, at -/
structure Err1 (K : Frag) (mg : Str → Option Value) (x : Str) (C fI : Addr) : Prop extends ErrC K mg x ["at"] C fI where
  fn : ∃ (qn : Str) (oc : Value) (od : Option Addr) (doc pm : Value) (an : Option Addr) (cdv ct : Value) (osl : Array (Option Value)) (p1 p2 q1 q2 q3 q4 : Pos),
    K.lookup fI = some ⟨oc, od, .func (fnOf "__init__" qn (nA [nArg "self" p1, nArg "at" p2]) [nSet "at" q1 q2 q3 q4] (nS ["at"]) .none .none doc pm an cdv ct), osl⟩ ∧ codeIn K cdv qn = true
section
variable {prog : Program} {w : World} {A : Around} {R : Result → Shared → Prop} {s : Shared} {K : Frag} {mg : Str → Option Value} {C fI : Addr} {x : Str}
theorem init1 (T : Err1 K mg x C fI) {y t0 : Addr} {v : Value} (X : K.In s.heap) (hlim : s.heap.NoLimit) (hy : s.heap.get? y = some (excO C t0)) (hroom : A.depth < recursionLimit)
    (hq : ∀ h' tk dx, Made s.heap h' y C dx t0 (fun z => if z = "at" then some v else none) → R (.ok (.ret .none)) { s with heap := h', toks := tk }) : codeAny (model prog w) A (.call (.ref fI) ⟨[.ref y, v], []⟩) R s := by
  obtain ⟨qn, oc, od, doc, pm, an, cdv, ct, osl, p1, p2, q1, q2, q3, q4, ho, hcd⟩ := T.fn
  obtain ⟨cd, b, hcl, hm, hh⟩ := T.cd
  refine Att.call_fn (binds := [("self", .ref y), ("at", v)]) X hlim ho hcd hroom (BindsTo.of_eq (by first | rfl | with_unfolding_all rfl)) (by first | rfl | decide | with_unfolding_all rfl) (fun s1 IC => ?_) rfl rfl rfl
  obtain ⟨h1, tk1, rfl⟩ := IC.toInCall.same
  have k := IC.toInCall.keep
  have hn := IC.toInCall.ns
  have ny : s.heap.objs.size ≠ y := Nat.ne_of_gt (Heap.lt_size hy)
  have X1 : K.In h1 := X.keeps k
  have hy1 := k _ _ hy
  refine wpAny_execs_cons (plainObj_wpAny_Assign_Attribute ?_)
  refine ld_own (v := v) hn (by first | rfl | with_unfolding_all rfl | kernel_rfl) (ld_own (v := .ref y) hn (by first | rfl | with_unfolding_all rfl | kernel_rfl) ?_)
  refine set_plain X1 (ox := excO C t0) (od := none) ⟨hy1, rfl, rfl, trivial⟩ T.sa ?_
  refine keep_first X1 hy1 hcl hm hh (T.noN _ (by simp)) (fun h3 tk3 dx k3 dn dne hx3 hn3 => ?_)
  have z : s.heap.objs.size < h1.objs.size := hn.lt
  exact wpAny_execs_nil (hq h3 tk3 dx ⟨fun b o hb e => k3 b o hb (k b o e), hx3, Nat.le_of_lt (Nat.lt_of_lt_of_le z dn), dne, hn3⟩)
theorem made1 (T : Err1 K mg x C fI) {v : Value} (X : K.In s.heap) (hlim : s.heap.NoLimit) (hroom : A.depth + 1 < recursionLimit)
    (hq : ∀ h' tk e d, Got s.heap h' e C d (fun z => if z = "at" then some v else none) → R (.ok (.ret (.ref e))) { s with heap := h', toks := tk }) : codeAny (model prog w) A (.call (.ref C) ⟨[v], []⟩) R s := by
  obtain ⟨nm, q, N, bs, b, sn, sub, ab, col, dd, k0, k1, k2, k3, k5, hC⟩ := T.cls
  obtain ⟨hp, g, dr, tk, os⟩ := s
  have k : ∀ b o, hp.get? b = some o → ((hp.push (kdv_tup [v])).push (excO C hp.objs.size)).get? b = some o := fun b o e => Heap.get?_push_of_some _ (Heap.get?_push_of_some _ e)
  have hget : ((hp.push (kdv_tup [v])).push (excO C hp.objs.size)).get? (hp.objs.size + 1) = some (excO C hp.objs.size) := by heap_get
  refine call_own F.excBase_Exception (fun X => chain_has b X) (X _ _ hC) (looks_findIn X T.iC) (fun self => bind_fn X self T.tC) (one_size v) ?_
  refine init1 (s := ⟨(hp.push (kdv_tup [v])).push (excO C hp.objs.size), g, dr, tk, os⟩) T (X.keeps k) (hlim.keeps k) hget ?_ fun h' tk' dx ⟨k', hx, dn, dne, hns⟩ => ?_
  · exact hroom
  · have old : ∀ b o, hp.get? b = some o → h'.get? b = some o := fun b o e => k' b o (Nat.ne_of_lt (Nat.lt_succ_of_lt (Heap.lt_size e))) (k b o e)
    have z : hp.objs.size + 1 + 1 ≤ dx := by
      first
        | (simpa only [Heap.size_push] using dn)
        | exact dn
        | (have q := dn; rw [Heap.size_push, Heap.size_push] at q; exact q)
    exact ⟨rfl, hq h' tk' (hp.objs.size + 1) dx ⟨old, Nat.le_succ _, ⟨_, _, hx, rfl, rfl, rfl, rfl⟩, Nat.le_trans (Nat.le_trans (Nat.le_succ _) (Nat.le_succ _)) z, dne, hns⟩⟩
end
end GX
namespace G
open PySem PySem.Spec PyProof.Rows L2
theorem relO_one {v : V} {v' : Value} {g : Str} (r : RelV v v') (f : Str) : RelO (List.lookup f [(g, v)]) (if f = g then some v' else none) := by
  by_cases hw : f = g
  · subst hw
    rw [if_pos rfl]
    have q : List.lookup f [(f, v)] = some v := by simp [List.lookup]
    rw [q]
    exact r
  · rw [if_neg hw]
    have q2 : List.lookup f [(g, v)] = none := by
      have : (f == g) = false := by simpa using hw
      simp [List.lookup, this]
    rw [q2]
    trivial
section
variable {X : Cx} {C fI : Addr}
/-- E(e) -/
def tMk1 (C : Addr) (ta : TA) : L2.St → Hp → XK → Prop := fun σ H Q => ta σ H fun vs H1 => ∃ v, vs = [v] ∧ ∀ d, H1 d = none → Q (.ref C) (some d) (upd H1 d (.xd [(("at" : Str), v)]))
theorem pmk1 {x : Str} {a : Expr} {ta : TA} {p pos : Pos} {k : Nat} (T : GX.Err1 X.K X.mg x C fI) (hr : Room k X.A) (ha : PA X [a] ta) (hg : Gl X x := by rfl) (hdb : (x == ("__debug__" : Str)) = false := by decide)
    (he : starEach (a :: []) X.env = (false, eval a X.env) :: starEach [] X.env := by rfl) (hpl : (backTo pos (starEach [] X.env)).any (·.1) = false := by rfl) :
    PMk X (.Call (.Name x p) [a] [] pos) (tMk1 C ta) := by
  intro pins s σ H Q I h
  refine wpAny_Call_Name_kw (ld_glob I hg T.gC ?_ hdb)
  refine PySem.W.callWith_K (h₀ := X.base) I.ok.mod.kin T.kC (thn (ha.run pos pins s σ H _ I h) fun us s1 hh => ?_) he hpl
  obtain ⟨vs, H1, I1, r1, v, ev, q1⟩ := hh
  subst ev
  refine ⟨I1.kIn, ?_⟩
  cases r1 with
  | cons rv rn =>
    rename_i v' us'
    cases rn
    show wpAny _ _ (call (.ref C) [v']) _ _ _
    have hlim := I1.nolimit
    obtain ⟨hp, g, dr, tk, os⟩ := s1
    refine wpAny_call (GX.made1 T I1.kIn hlim (by have := hr.dp; omega) fun h' tk' e d M => ?_)
    show MkP X pins σ Q (.ref e) ⟨h', g, dr, tk', os⟩
    obtain ⟨oe, fv, hoe, hc, hd, hdat, h1⟩ := M.obj
    have hns := M.ns
    obtain ⟨G', g1, g2⟩ := restrict h' fun b => decide (b ≠ e)
    have gk : ∀ b, b ≠ e → G'.get? b = h'.get? b := fun b hb => g1 b (decide_eq_true hb)
    have ge : G'.get? e = none := g2 e (by simp)
    have old : ∀ b o, hp.get? b = some o → G'.get? b = some o := fun b o q => (gk b (Nat.ne_of_lt (Nat.lt_of_lt_of_le (Heap.lt_size q) M.new))).trans (M.keep b o q)
    have ob : ObjOk X.prog X.w (upd H1 d (.xd [(("at" : Str), v)])) G' d (.xd [(("at" : Str), v)]) := ⟨_, hns.at (fun o q => (gk d M.dne).trans q), fun f => relO_one rv f⟩
    have J : Inv X pins σ (upd H1 d (.xd [(("at" : Str), v)])) ⟨G', g, dr, tk', os⟩ := I1.laid (t' := tk') old M.dbig ob
    refine ⟨e, oe, fv, ⟨G', g, dr, tk', os⟩, _, .ref C, some d, rfl, J, fun b o q => ?_, ge, hoe, ⟨hc, hd⟩, hdat, h1, ?_, rfl, I1.bare, raises_own T.exC T.tyC, q1 d (I1.hok.fresh M.dbig)⟩
    · by_cases hb : b = e
      · have q' : G'.get? b = some o := q
        rw [hb, ge] at q'
        cases q'
      · exact (gk b hb).symm.trans q
    · rw [upd_ne (Ne.symm M.dne)]
      exact I1.hok.fresh M.new
def tRaise1 (C : Addr) (W : WX) (ta : TA) : TS := fun _ σ H => tMk1 C ta σ H fun cls d H' => W cls d σ H'
theorem ps_raise1 {x : Str} {a : Expr} {ta : TA} {W : WX} {p pos pos2 : Pos} {k : Nat} (T : GX.Err1 X.K X.mg x C fI) (hc : X.calm = true) (hr : Room k X.A) (tk : Takes X W) (ha : PA X [a] ta) (hg : Gl X x := by rfl) (hdb : (x == ("__debug__" : Str)) = false := by decide)
    (he : starEach (a :: []) X.env = (false, eval a X.env) :: starEach [] X.env := by rfl) (hpl : (backTo pos (starEach [] X.env)).any (·.1) = false := by rfl) :
    PS X (.Raise (some (.Call (.Name x p) [a] [] pos)) none pos2) (tRaise1 C W ta) := ps_raise hc tk (pmk1 T hr ha hg hdb he hpl)
end
end G
namespace G
open PySem PySem.Spec PyProof.Rows L2
/-! ### a try whose first clause (as n) takes whatever its body lets out -/
def wFst (K : PySem.W.Frag) (c : Value) (i : Nat) (ts : Addr → Value → Option Addr → TS) (D : Ends) : WX := fun cls d σ H =>
  PySem.W.exmOne K cls c = some true ∧ ∀ a, H a = none → ts a cls d { nx := fun σ' H' => D.nx (σ'.set i none) H', rt := D.rt, bk := fun σ' H' => D.bk (σ'.set i none) H', ct := fun σ' H' => D.ct (σ'.set i none) H' } (σ.set i (some (.ref a))) H
section
variable {X : Cx} {x n : Str} {c : Value} {i : Nat} {body suite : List Stmt} {b₀ : Stmt} {np pos pos' : Pos} {hds : List ExceptHandler} {tb : WX → TS} {ts : Addr → Value → Option Addr → TS}
theorem ps_try_first (hs : X.stack = X.env :: X.outer) (hf : X.env.frame = some X.env.locals) (hN : X.N.Nodup) (hi : X.N[i]? = some n) (hln : X.env.kindOf n = some .local) (hc : Names X x c)
    (hb : ∀ (W : WX) (pn : List (Addr × Obj)) (xe : Value → Shared → Prop), Takes (X.tr pn xe) W → PassesOwn (model X.prog X.w) X.A X.env xe → PSs (X.tr pn xe) body (tb W))
    (hsu : ∀ (a : Addr) (oe : Obj) (cls : Value) (d : Option Addr) (pn : List (Addr × Obj)), Zc cls d oe → (∃ vs, oe.data = .fields vs) → PSs (X.suite a ((a, oe) :: pn)) (b₀ :: suite) (ts a cls d)) :
    PS X (.Try body (.ExceptHandler (some (.Name x np)) (some n) (b₀ :: suite) pos' :: hds) [] [] pos) (fun D σ H => tb (wFst X.K c i ts D) D σ H) := by
  refine ⟨fun pins s σ H D I h => ?_⟩
  have ok := I.ok
  have hstk : X.A.frames = some (X.env :: X.outer) := by rw [ok.frames, hs]
  have isl : Loc X.env.scope n := .inl hln
  refine wpAny_Try_except (wpAny_mono ((hb (wFst X.K c i ts D) (X.pn ++ pins) (fun e s₁ => wpAny (model X.prog X.w) X.A (noteFrame e X.env) (fun _ s₂ => wpAny (model X.prog X.w) X.A (setFlight e none) (fun _ s₃ =>
    wpAny (model X.prog X.w) X.A (handleBy e X.env (.ExceptHandler (some (.Name x np)) (some n) (b₀ :: suite) pos' :: hds)) (SP X pins D) X.xe s₃) X.xe s₂) X.xe s₁) (fun u s' xx => ?_) PassesOwn.looking).run [] s σ H D (I.toTry _) h) (fun f s1 hsp => ?_) (fun e s1 he => he))
  · obtain ⟨a, B, sI, pins', σ', H', cls, d, rfl, J', nb, up, sky, na, os, ag, hyes, hgo⟩ := xx
    have J : Inv X pins σ' H' sI := J'.ofTry ok
    have sky2 : Sky B (X.env :: X.outer) a (Zc cls d) X.env.locals s'.heap := by rw [← hs]; exact sky
    show wpAny (model X.prog X.w) X.A (noteFrame (.ref a) X.env) _ _ _
    refine Sky.land Zc.steady hstk hf sky2 fun h3 fl3 up3 => ?_
    have J3 : Inv X pins σ' H' { s' with heap := h3 } := J.landed nb fl3.1 (up.trans up3) os ag
    obtain ⟨oe3, vs3, he3, hz3, hd3⟩ := fl3.there
    have off : a ∉ frs (X.env :: X.outer) := fun hm => by
      obtain ⟨_, o', e', hnf⟩ := fl3.2.2.1.mem hm
      rw [he3] at e'
      cases e'
      exact hnf _ hd3
    have nL : a ≠ X.env.locals := fun z => off (List.mem_filterMap.mpr ⟨X.env, List.mem_cons_self, by rw [hf, z]⟩)
    have nF : a ∉ X.fs := fun hm => by
      obtain ⟨e, he, q⟩ := List.mem_filterMap.mp hm
      exact off (List.mem_filterMap.mpr ⟨e, List.mem_cons_of_mem _ he, q⟩)
    have S3 := J3.suite he3 hd3 na nL nF
    refine wpAny_handleBy_cons (codeAny_handlers_test ?_) (by intro q; cases q)
    have hty : PySem.W.Looks (model X.prog X.w) h3 (typeOf (.ref a)) cls := fun A Q E s k q => wpAny_typeOf_ref (k _ _ he3) (by rw [hz3.1]; exact q)
    have hmt := PySem.W.exm_one (M := model X.prog X.w) (J3.kIn) hty hyes
    have named : ∀ {Q : Value → Shared → Prop} {E : Value → Shared → Prop}, Q c { s' with heap := h3 } → wpAny (model X.prog X.w) (X.A.mark (some (.ref a))) (eval (.Name x np) X.env) Q E { s' with heap := h3 } := fun {Q E} q => by
      obtain ⟨hg, hdbg, hm | ⟨hm, hv, hnn⟩⟩ := hc
      · exact ld_glob (X := X.suite a ((a, oe3) :: (X.pn ++ pins))) S3 hg hm q hdbg
      · exact ld_blt (X := X.suite a ((a, oe3) :: (X.pn ++ pins))) S3 hg hm hv q hnn hdbg
    refine named (hmt.here (codeAny_handlers_suite_as ?_))
    refine HandSPX.lands_againZ fl3 fun h4 fl4 up4 => ?_
    have J4 : Inv X pins σ' H' { s' with heap := h4 } := J.landed nb fl4.1 ((up.trans up3).trans up4) os ag
    obtain ⟨oe4, vs4, he4, hz4, hd4⟩ := fl4.there
    have S4 := J4.suite he4 hd4 na nL nF
    refine store_ok (X := X.suite a ((a, oe4) :: (X.pn ++ pins))) (v := .ref a) S4 hN hi isl rfl (fun s5 S5 => ?_) (.inr hln)
    refine wpAny_mono ((hsu a oe4 cls d (X.pn ++ pins) hz4 ⟨_, hd4⟩).run [] s5 _ H' _ S5 (hgo a na)) (fun f s6 hsp => ?_) (fun _ _ z => False.elim z)
    have back : ∀ {σ6 : L2.St} {H6 : Hp} {Q : Shared → Prop}, Inv (X.suite a ((a, oe4) :: (X.pn ++ pins))) [] σ6 H6 s6 → (∀ s7, Inv X pins (σ6.set i none) H6 s7 → Q s7) →
        wpAny (model X.prog X.w) X.A (do bindName X.env n .none; unbindBehindTheSuite X.env n pos') (fun _ s7 => Q s7) X.xe s6 := fun {σ6 H6 Q} S6 hq => gone_ok (S6.unsuite ok) hN hi hln hq
    cases f with
    | ret u =>
      obtain ⟨v6, σ6, H6, S6, r6, q6⟩ := hsp
      exact back S6 fun s7 J7 => ⟨_, _, _, J7, r6, q6⟩
    | next =>
      obtain ⟨σ6, H6, S6, q6⟩ := hsp
      exact back S6 fun s7 J7 => ⟨_, _, J7, q6⟩
    | brk =>
      obtain ⟨σ6, H6, S6, q6⟩ := hsp
      exact back S6 fun s7 J7 => ⟨_, _, J7, q6⟩
    | cont =>
      obtain ⟨σ6, H6, S6, q6⟩ := hsp
      exact back S6 fun s7 J7 => ⟨_, _, J7, q6⟩
  · cases f with
    | ret u =>
      obtain ⟨v, σ', H', J', r, q⟩ := hsp
      exact ⟨v, σ', H', J'.ofTry ok, r, q⟩
    | next =>
      obtain ⟨σ', H', J', q⟩ := hsp
      exact wpAny_execs_nil ⟨σ', H', J'.ofTry ok, q⟩
    | brk =>
      obtain ⟨σ', H', J', q⟩ := hsp
      exact ⟨σ', H', J'.ofTry ok, q⟩
    | cont =>
      obtain ⟨σ', H', J', q⟩ := hsp
      exact ⟨σ', H', J'.ofTry ok, q⟩
end
/-! ### defs that raise -/
structure HasX (P : Program) (w : World) (K : PySem.W.Frag) (mg : Str → Option Value) (base : Heap) (x : Str) (st : Stmt) (k : Nat) (ps : List Str) (sp : Sp) : Prop where
  ex : ∃ f fd, FnOk P w K mg base (L2.CX P w) k f fd ps sp ∧ mg x = some (.ref f) ∧ Fun K x x st f fd ∧ Binds K fd ps []
section
variable {P : Program} {w : World} {K : PySem.W.Frag} {mg : Str → Option Value} {base : Heap}
theorem has_mkX {x : Str} {st : Stmt} {N ps : List Str} {k : Nat} {sp : Sp} (D : Df K mg x st) (S : FnScope N ps (defScope st))
    (hb : ∀ (kV doc pm : Value) (an : Option Addr) (cdv ct : Value) (us : List Value), us.length = ps.length → bindArgs (PySem.W.fnOf x x (defArgs st) (defBody st) (defScope st) .none kV doc pm an cdv ct) ⟨us, []⟩ = pure (ps.zip us))
    (len : ∀ vs H Q E, sp vs H Q E → vs.length = ps.length)
    (hbody : ∀ (f : Addr) (cdv : Value) (A : Around) (outer : List Env) (s : Shared) (H : Hp) (vs : List V) (Q : VK) (E : XK), Room k (A.deeper (envOfC x (defScope st) s.heap.objs.size f cdv)) → sp vs H Q E →
      ∃ t, PSs (cxOf (L2.CX P w) P w K mg base N x (defScope st) f cdv A outer s H E) (defBody st) t ∧ t { nx := fun _ H' => Q .non H', rt := Q } (start N vs) H) : HasX P w K mg base x st (k + 1) ps sp := by
  obtain ⟨f, fd, F, m⟩ := D
  exact ⟨f, fd, F.okX S len (fun cdv A outer s H vs Q E => hbody f cdv A outer s H vs Q E), m, F, F.binds hb⟩
end
section
variable {X : Cx} {x : Str} {st : Stmt} {k j : Nat} {ps : List Str} {sp : Sp} {p pos : Pos} {e : Expr} {es : List Expr} {t : TA} {W : WX}
/-- a call of one, around which W is wished -/
theorem pe_callX (F : HasX X.prog X.w X.K X.mg X.base x st k ps sp) (hr : Room j X.A) (tk : Takes X W) (hg : Gl X x) (ha : PA X (e :: es) t) (hk : k ≤ j := by decide)
    (hdb : (x == ("__debug__" : Str)) = false := by decide) (he : starEach (e :: es) X.env = (false, eval e X.env) :: starEach es X.env := by rfl) (hpl : (backTo pos (starEach es X.env)).any (·.1) = false := by rfl) :
    PE X (.Call (.Name x p) (e :: es) [] pos) (tCallS sp (WE W) t) := by
  obtain ⟨f, fd, F, m, fn, b⟩ := F
  exact pe_callS F (hr.mono hk) hg m fn.kp b (fun σ => passAt tk σ) ha hdb he hpl
theorem sx_callS {σ : L2.St} {H : Hp} {Q : VK} {E : L2.St → XK} (q : t σ H fun vs H1 => sp vs H1 Q (E σ)) : tCallS sp E t σ H Q := q
end
end G
namespace G
open PySem PySem.Spec PyProof.Rows L2
/-! ### .. by keywords alone -/
section
variable {X : Cx} {x : Str} {st : Stmt} {k j : Nat} {ps ks : List Str} {sp : Sp} {p pos : Pos} {kws : List Keyword} {tk : TA} {g : List Value → List Value → List Value} {gV : List V → List V → List V} {W : WX}
def tCallXK (sp : Sp) (gV : List V → List V → List V) (W : WX) (tk : TA) : TE := fun σ H Q => tk σ H fun zs H2 => sp (gV [] zs) H2 Q (WE W σ)
theorem pe_callXK (F : HasX X.prog X.w X.K X.mg X.base x st k ps sp) (kb : ∀ f fd, Fun X.K x x st f fd → KBinds X.K fd ps ks g gV) (hr : Room j X.A) (tks : Takes X W) (hg : Gl X x) (hkw : PK X kws tk) (hk : k ≤ j := by decide)
    (hall : (backToKw pos (keywordEach kws X.env)).all (·.1.isSome) = true := by rfl) (hks : (backToKw pos (keywordEach kws X.env)).filterMap (·.1) = ks := by rfl) (hdb : (x == ("__debug__" : Str)) = false := by decide)
    (hpl : ((backTo pos (starEach [] X.env)).any (·.1) || (backToKw pos (keywordEach kws X.env)).any (·.1.isNone)) = false := by rfl) :
    PE X (.Call (.Name x p) [] kws pos) (tCallXK sp gV W tk) := by
  obtain ⟨f, fd, F, m, fn, b⟩ := F
  refine ⟨fun pins s σ H Q I h => ?_⟩
  refine wpAny_Call_Name_kw (ld_glob I hg m ?_ hdb)
  refine PySem.W.callWith_KW0 (h₀ := X.base) I.ok.mod.kin fn.kp hall ?_ hpl
  have h : tk σ H fun zs H2 => sp (gV [] zs) H2 Q (WE W σ) := h
  refine thn (hkw.run pos pins s σ H _ I h) fun ws s2 ⟨zs, H2, I2, rz, q2⟩ => ⟨I2.kIn, ?_⟩
  rw [hks]
  have kb := kb f fd fn
  have r2 := kb.rel (vs := []) (us := []) .nil rz
  have hl : (g [] ws).length = ps.length := by rw [← r2.length]; exact F.len _ _ _ _ q2
  refine wpAny_call (codeAny_mono (F.run X.A X.stack s2 H2 ⟨[], ks.zip ws⟩ (g [] ws) (gV [] zs) Q (WE W σ) (hr.mono hk) I2.env0 (kb.to s2 [] ws I2.kIn hl) r2 q2) fun r s' hq => ?_)
  cases r with
  | error e => exact passAt tks σ pins H2 s2 e s' I2 hq
  | ok fl =>
    cases fl with
    | ret u => exact I2.after hq
    | next => exact False.elim hq
    | brk => exact False.elim hq
    | cont => exact False.elim hq
theorem sx_callXK {σ : L2.St} {H : Hp} {Q : VK} (q : tk σ H fun zs H2 => sp (gV [] zs) H2 Q (WE W σ)) : tCallXK sp gV W tk σ H Q := q
end
section
variable {σ : L2.St} {H : Hp} {Q : VK} {D : Ends} {W : WX} {ta : TA} {te : TE} {C : Addr}
theorem sx_raise1 (q : ta σ H fun vs H1 => ∃ v, vs = [v] ∧ ∀ d, H1 d = none → W (.ref C) (some d) σ (upd H1 d (.xd [(("at" : Str), v)]))) : tRaise1 C W ta D σ H := q
theorem sx_one {v : V} {R : V → Prop} (q : R v) : ∃ u, [v] = [u] ∧ R u := ⟨v, rfl, q⟩
theorem sx_xf {a : Addr} {cls : Value} {d : Option Addr} {f : Str} (q : te σ H fun x H1 => x = .ref a ∧ cls = .ref C ∧ ∃ (dd : Addr) (fs : List (Str × V)) (v : V), d = some dd ∧ H1 dd = some (.xd fs) ∧ fs.lookup f = some v ∧ Q v H1) : tXf a cls d C f te σ H Q := q
end
end G
namespace G
open PySem PySem.Spec PyProof.Rows L2
/-- the n-th def of a class -/
def clsMeth (s : Stmt) (n : Nat) : Stmt := match s with
  | .ClassDef _ _ _ b _ _ _ _ _ _ _ => b.getD n (.Pass ⟨0, 0, 0, 0⟩)
  | _ => .Pass ⟨0, 0, 0, 0⟩
theorem exm_own {K : PySem.W.Frag} {S : Addr} (h1 : PySem.W.subIn K (.ref S) (.type "BaseException") = some true) (h2 : PySem.W.isClsIn K S = true) (h3 : PySem.W.typeIn K (.ref S) = some (.type "type")) (h4 : PySem.W.subIn K (.ref S) (.ref S) = some true) : PySem.W.exmOne K (.ref S) (.ref S) = some true := by
  have e1 : (PySem.W.subIn K (.ref S) (.type "BaseException") == some true) = true := by rw [h1] <;> rfl
  have h2' : (PySem.W.clsIn K S).isSome = true := h2
  have e2 : ((PySem.W.clsIn K S).isSome && PySem.W.typeIn K (.ref S) == some (.type "type")) = true := by rw [h2', h3] <;> rfl
  show (if (PySem.W.subIn K (.ref S) (.type "BaseException") == some true) = true then (if ((PySem.W.clsIn K S).isSome && PySem.W.typeIn K (.ref S) == some (.type "type")) = true then PySem.W.subIn K (.ref S) (.ref S) else none) else none) = some true
  rw [if_pos e1, if_pos e2]
  exact h4
section
variable {K : PySem.W.Frag} {h : Heap} {mg : Str → Option Value}
theorem err_mk {x : Str} {xs : List Str} {C b fI : Addr} {nm q : Str} {N : Addr} {bs : List Value} {sn : List Str} {sub : List Value} {ab : Bool} {col : Option Bool} {dd : Option Addr} {m0 m1 m2 m3 m5 : Option Value} (X : K.In h) (G : h.Ns mainGlobals mg)
    (aC : PySem.W.nsIn K mainGlobals x = some (some (.ref C))) (xL : K.lookup C = some (excClassObj nm q C N bs [.ref b, .type "Exception", .type "BaseException", .type "object"] true sn sub ab col dd m0 m1 m2 m3 m5 "Exception.__new__"))
    (sa : PySem.W.findIn K (.ref C) "__setattr__" = some (some (.builtin "object.__setattr__"))) (ga : PySem.W.findIn K (.ref C) "__getattribute__" = some (some (.builtin "BaseException.__getattribute__"))) (gg : PySem.W.findIn K (.ref C) "__getattr__" = some none)
    (nb : ∀ y ∈ xs, PySem.W.findIn K (.ref C) y = some none) (a1 : PySem.W.findIn K (.ref C) "__init__" = some (some (.ref fI))) (t1 : PySem.W.typeIn K (.ref fI) = some (.type "function")) (kC : PySem.W.keepIn K (.ref C) = true) (eC : PySem.W.subIn K (.ref C) (.type "BaseException") = some true)
    (tC : PySem.W.typeIn K (.ref C) = some (.type "type")) (hC : PySem.W.hasDictIn K C = true) (iC : PySem.W.isClsIn K C = true) (sC : PySem.W.subIn K (.ref C) (.ref C) = some true) : GX.ErrC K mg x xs C fI :=
  { gC := PySem.W.mg_of X G aC, cls := ⟨nm, q, N, bs, b, sn, sub, ab, col, dd, m0, m1, m2, m3, m5, xL⟩, sa := sa, ga := ga, gg := gg, noN := nb, iC := a1, tC := t1, kC := kC, exC := eC, tyC := tC, hdC := hC, te := exm_own eC iC tC sC }
theorem err1_mk {x qn : Str} {st : Stmt} {C fI : Addr} {oc cd ct dc pm : Value} {od an : Option Addr} {sl : Array (Option Value)} (E : GX.ErrC K mg x ["at"] C fI)
    (ht : ∃ p1 p2 q1 q2 q3 q4, defArgs st = GX.nA [GX.nArg "self" p1, GX.nArg "at" p2] ∧ defBody st = [GX.nSet "at" q1 q2 q3 q4] ∧ defScope st = GX.nS ["at"])
    (l1 : K.lookup fI = some ⟨oc, od, .func (PySem.W.fnOf "__init__" qn (defArgs st) (defBody st) (defScope st) .none .none dc pm an cd ct), sl⟩) (c1 : PySem.W.codeIn K cd qn = true) : ∃ C fI, GX.Err1 K mg x C fI := by
  obtain ⟨p1, p2, q1, q2, q3, q4, e1, e2, e3⟩ := ht
  rw [e1, e2, e3] at l1
  exact ⟨C, fI, E, qn, oc, od, dc, pm, an, cd, ct, sl, p1, p2, q1, q2, q3, q4, l1, c1⟩
end
end G

/-! GD: displays of data, read in one go; a text so many times. -/
namespace G
open PySem PySem.Spec PyProof.Rows L2
/-! ### a text so many times -/
def rMulS : R2 := fun x y H Q => ∃ i n, x = .str i ∧ y = .int n ∧ MulOk i n ∧ Q (.str (Txt.mul i n)) H
theorem op_mulS {X : Cx} : OpR X (binaryOp .Mult) rMulS := by
  intro pins s σ H x y v u Q I rx ry h
  obtain ⟨i, n, rfl, rfl, ok, q⟩ := h
  obtain ⟨t, rfl⟩ := rx
  obtain ⟨t', rfl⟩ := ry
  exact SB.mul ok fun t2 k => ⟨.str (Txt.mul i n), H, I.tok _, ⟨_, rfl⟩, q⟩
/-! ### a value of data, whatever is frozen beside -/
def DV (K : PySem.W.Frag) (te : TE) (σ : L2.St) (B : Hp) (d : PyData) : Prop := ∀ (B1 H1 : Hp) (Q : VK), Ex B B1 → Ex B1 H1 → (∀ v B' H', Nx [] B1 H1 B' H' → Dp K B' v d → Q v H') → te σ H1 Q
def DVs (K : PySem.W.Frag) (ta : TA) (σ : L2.St) (B : Hp) (ds : List PyData) : Prop := ∀ (B1 H1 : Hp) (Q : List V → Hp → Prop), Ex B B1 → Ex B1 H1 → (∀ vs B' H', Nx [] B1 H1 B' H' → DpAll K B' vs ds → Q vs H') → ta σ H1 Q
section
variable {K : PySem.W.Frag} {σ : L2.St} {B H : Hp} {te : TE} {ta : TA} {d : PyData} {ds : List PyData}
theorem DV.str {s : Str} : DV K (tC (.str s)) σ B (.str s) := fun B1 H1 Q _ e1 q => q _ B1 H1 (Nx.refl e1) (.str s)
theorem DV.int {i : Int} : DV K (tC (.int i)) σ B (.int i) := fun B1 H1 Q _ e1 q => q _ B1 H1 (Nx.refl e1) (.int i)
theorem DV.bl {b : Bool} : DV K (tC (.bl b)) σ B (.bool b) := fun B1 H1 Q _ e1 q => q _ B1 H1 (Nx.refl e1) (.bl b)
theorem DV.non : DV K (tC .non) σ B .none := fun B1 H1 Q _ e1 q => q _ B1 H1 (Nx.refl e1) .non
theorem DV.neg {i : Int} : DV K (tUn (rU fun i => .int (-i)) (tC (.int i))) σ B (.int (-i)) := fun B1 H1 Q _ e1 q => ⟨i, rfl, q _ B1 H1 (Nx.refl e1) (.int (-i))⟩
theorem DV.var {i : Nat} {v : V} (h : σ[i]? = some (some v)) (hd : Dp K B v d) : DV K (tVar i) σ B d := fun B1 H1 Q e e1 q => ⟨v, h, q v B1 H1 (Nx.refl e1) (Dp.up e hd)⟩
theorem DVs.nil : DVs K tNil σ B [] := fun B1 H1 Q _ e1 q => q [] B1 H1 (Nx.refl e1) .nil
theorem DVs.cons (h : DV K te σ B d) (k : DVs K ta σ B ds) : DVs K (tCons te ta) σ B (d :: ds) := fun B1 H1 Q e e1 q =>
  h B1 H1 _ e e1 fun v B2 H2 n2 dv => k B2 H2 _ (e.trans n2.b) n2.h fun vs B3 H3 n3 dvs => q _ B3 H3 (n2.tr n3) (.cons (Dp.up n3.b dv) dvs)
theorem DV.tup (h : DVs K ta σ B ds) (hz : ds.length ≤ 100000) : DV K (tTup ta) σ B (.tuple ds) := fun B1 H1 Q e e1 q =>
  h B1 H1 _ e e1 fun vs B2 H2 n2 dvs => sx_newT n2.h dvs hz fun p B3 H3 hp n3 d3 => q _ B3 H3 (n2.tr n3) d3
theorem DV.lst (h : DVs K ta σ B ds) (hz : ds.length ≤ 100000) : DV K (tLst ta) σ B (.list ds) := fun B1 H1 Q e e1 q =>
  h B1 H1 _ e e1 fun vs B2 H2 n2 dvs => sx_newL n2.h dvs hz fun p B3 H3 hp n3 d3 => q _ B3 H3 (n2.tr n3) d3
theorem DV.ixT {i : Int} (h : DV K te σ B (.tuple ds)) (ha : atI ds i = some d) : DV K (tOp (rIxT K) te (tC (.int i))) σ B d := fun B1 H1 Q e e1 q =>
  h B1 H1 _ e e1 fun v B2 H2 n2 dv => sx_ixTd dv n2.h ha fun u du => q u B2 H2 n2 du
theorem DV.mulS {s : Str} {n : Int} (h : DV K te σ B (.str s)) (ok : MulOk s n) : DV K (tOp rMulS te (tC (.int n))) σ B (.str (Txt.mul s n)) := fun B1 H1 Q e e1 q =>
  h B1 H1 _ e e1 fun v B2 H2 n2 dv => ⟨s, n, Dp.str_v dv, rfl, ok, q _ B2 H2 n2 (.str _)⟩
theorem DV.listT (h : DV K te σ B (.tuple ds)) : DV K (tCB (rListOf K) (tCons te tNil)) σ B (.list ds) := fun B1 H1 Q e e1 q =>
  h B1 H1 _ e e1 fun v B2 H2 n2 dv => by
    obtain ⟨a, xs, rfl, hs, hd⟩ := Dp.tup_v dv
    exact ⟨a, xs, rfl, .inr (n2.h.t hs), fun l hl => q _ (upd B2 l (.lst xs)) _ (n2.tr (Nx.new n2.h hl)) (.lst (SqL.of upd_same) (Dps.up (Ex.new (n2.h.free hl)) hd))⟩
theorem DV.ix0 {i : Nat} {v : V} (h : σ[i]? = some (some v)) (hd : Dp K B v (.tuple (d :: ds))) : DV K (tOp (rIxT K) (tVar i) (tC (.int 0))) σ B d := DV.ixT (DV.var h hd) at0
theorem DV.sub {i j : Int} : DV K (tOp (rI0 fun i j => .int (i - j)) (tC (.int i)) (tC (.int j))) σ B (.int (i - j)) := fun B1 H1 Q _ e1 q => ⟨i, j, rfl, rfl, q _ B1 H1 (Nx.refl e1) (.int (i - j))⟩
/-- .. read -/
theorem sx_dv {Q : VK} (h : DV K te σ B d) (e : Ex B H) (q : ∀ v B' H', Nx [] B H B' H' → Dp K B' v d → Q v H') : te σ H Q := h B H Q (Ex.refl _) e q
theorem sx_dvs {Q : List V → Hp → Prop} (h : DVs K ta σ B ds) (e : Ex B H) (q : ∀ vs B' H', Nx [] B H B' H' → DpAll K B' vs ds → Q vs H') : ta σ H Q := h B H Q (Ex.refl _) e q
/-- a list that may change -/
def tLstD (ta : TA) : TE := tLst ta
def tTupD (ta : TA) : TE := tTup ta
theorem sx_lstD {Q : VK} (h : DVs K ta σ B ds) (e : Ex B H) (hz : ds.length ≤ 100000) (q : ∀ p xs B' H', H p = none → Nx [] B H B' H' → Mu B' H' p xs → DpAll K B' xs ds → Q (.ref p) H') : tLstD ta σ H Q :=
  h B H _ (Ex.refl _) e fun vs B2 H2 n2 dvs => sx_newM (B := B2) n2.h (by rw [Dps.len dvs]; exact hz) fun p H3 hp n3 m3 => q p vs B2 H3 (n2.ex.free hp) (n2.tr n3) m3 dvs
theorem sx_tupD {Q : VK} (h : DVs K ta σ B ds) (e : Ex B H) (hz : ds.length ≤ 100000) (q : ∀ v B' H', Nx [] B H B' H' → Dp K B' v (.tuple ds) → Q v H') : tTupD ta σ H Q := sx_dv (DV.tup h hz) e q
end
section
variable {X : Cx} {es : List Expr} {t : TA} {pos : Pos}
theorem pe_lstD (h : PA X es t) : PE X (.List es pos) (tLstD t) := pe_lst h
theorem pe_tupD {c} (h : PA X es t) : PE X (.Tuple es c pos) (tTupD t) := pe_tup h
end
end G

/-! GO: classes of the text: instances, fields, methods; a list of a range. -/
namespace G
open PySem PySem.Spec PyProof.Rows L2
/-- where a class of the top stands -/
def cA (mg : Str → Option Value) (x : Str) : Addr := match mg x with
  | some (.ref a) => a
  | _ => 0
/-- a class of the top whose instances have the fields fs -/
structure Cl (K : PySem.W.Frag) (mg : Str → Option Value) (x : Str) (fs : List Str) : Prop where
  g : mg x = some (.ref (cA mg x))
  cl : Cls K (cA mg x)
  kp : PySem.W.keepIn K (.ref (cA mg x)) = true
  mks : PySem.W.makesIn K (cA mg x) = true
  no : ∀ f ∈ fs, NoAttr K (cA mg x) f
/-- a method of it -/
def Md (K : PySem.W.Frag) (mg : Str → Option Value) (x m qn : Str) (st : Stmt) : Prop := ∃ f fd, Meth K (cA mg x) m f ∧ Fun K m qn st f fd
structure HasM (P : Program) (w : World) (K : PySem.W.Frag) (mg : Str → Option Value) (base : Heap) (x m qn : Str) (st : Stmt) (k : Nat) (ps : List Str) (sp : Sp) : Prop where
  ex : ∃ f fd, FnOk P w K mg base CX0 k f fd ps sp ∧ Meth K (cA mg x) m f ∧ Fun K m qn st f fd ∧ Binds K fd ps []
section
variable {P : Program} {w : World} {K : PySem.W.Frag} {mg : Str → Option Value} {base : Heap}
theorem hasm_mk {x m qn : Str} {st : Stmt} {N ps : List Str} {k : Nat} {sp : Sp} (D : Md K mg x m qn st) (S : FnScope N ps (defScope st))
    (hb : ∀ (kV doc pm : Value) (an : Option Addr) (cdv ct : Value) (us : List Value), us.length = ps.length → bindArgs (PySem.W.fnOf m qn (defArgs st) (defBody st) (defScope st) .none kV doc pm an cdv ct) ⟨us, []⟩ = pure (ps.zip us))
    (len : ∀ vs H Q E, sp vs H Q E → vs.length = ps.length)
    (hbody : ∀ (f : Addr) (cdv : Value) (A : Around) (outer : List Env) (s : Shared) (H : Hp) (vs : List V) (Q : VK) (E : XK), Room k (A.deeper (envOfC qn (defScope st) s.heap.objs.size f cdv)) → sp vs H Q E →
      ∃ t, PSs (cxOf CX0 P w K mg base N qn (defScope st) f cdv A outer s H E).nox (defBody st) t ∧ t { nx := fun _ H' => Q .non H', rt := Q } (start N vs) H) : HasM P w K mg base x m qn st (k + 1) ps sp := by
  obtain ⟨f, fd, M, F⟩ := D
  exact ⟨f, fd, F.ok S len (fun cdv A outer s H vs Q E => hbody f cdv A outer s H vs Q E), M, F, F.binds hb⟩
end
section
variable {X : Cx} {x m qn : Str} {st : Stmt} {k j : Nat} {ps fs : List Str} {sp : Sp} {p pos apos : Pos} {e o : Expr} {es : List Expr} {t : TA} {ta : TE}
theorem pe_methH {pl : Sem Bool} (F : HasM X.prog X.w X.K X.mg X.base x m qn st k ps sp) (c : Cl X.K X.mg x fs) (hr : Room j X.A) (he : PE X o ta) (ha : PA X (e :: es) t) (hk : k ≤ j := by decide)
    (hst : starEach (e :: es) X.env = (false, eval e X.env) :: starEach es X.env := by rfl) (hpl : (backTo pos (starEach es X.env)).any (·.1) = false := by rfl)
    (ht : eval (.Call (.Attribute o m apos) (e :: es) [] pos) X.env = (do
      let ov ← eval o X.env
      standAt apos.atName
      let (f, first) ← holding [ov] (getMethod ov m pl)
      callWith pos f first (backTo pos (starEach (e :: es) X.env)) (backToKw pos (keywordEach [] X.env))) := by rfl) :
    PE X (.Call (.Attribute o m apos) (e :: es) [] pos) (tMeth (cA X.mg x) m sp [] E0 ta t) := by
  obtain ⟨f, fd, G, hm, fn, b⟩ := F
  exact pe_meth he c.cl hm G (hr.mono hk) b .nil pass0 ha hst hpl ht
theorem pe_meth0H {pl : Sem Bool} (F : HasM X.prog X.w X.K X.mg X.base x m qn st k ps sp) (c : Cl X.K X.mg x fs) (hr : Room j X.A) (he : PE X o ta) (hk : k ≤ j := by decide)
    (ht : eval (.Call (.Attribute o m apos) [] [] pos) X.env = (do
      let ov ← eval o X.env
      standAt apos.atName
      let (f, first) ← holding [ov] (getMethod ov m pl)
      callWith pos f first (backTo pos (starEach [] X.env)) (backToKw pos (keywordEach [] X.env))) := by rfl) :
    PE X (.Call (.Attribute o m apos) [] [] pos) (tMeth (cA X.mg x) m sp [] E0 ta tNil) := by
  obtain ⟨f, fd, G, hm, fn, b⟩ := F
  exact pe_meth0 he c.cl hm G (hr.mono hk) b .nil pass0 ht
theorem pe_makeH (F : HasM X.prog X.w X.K X.mg X.base x "__init__" qn st k ps sp) (c : Cl X.K X.mg x fs) (hr : Room j X.A) (hg : Gl X x) (ha : PA X (e :: es) t) (hk : k + 1 ≤ j := by decide) (hdb : (x == ("__debug__" : Str)) = false := by decide)
    (he : starEach (e :: es) X.env = (false, eval e X.env) :: starEach es X.env := by rfl) (hpl : (backTo pos (starEach es X.env)).any (·.1) = false := by rfl) :
    PE X (.Call (.Name x p) (e :: es) [] pos) (tMake (cA X.mg x) sp [] E0 t) := by
  obtain ⟨f, fd, G, hm, fn, b⟩ := F
  exact pe_make ⟨c.mks, hm.at_, hm.fn, c.kp⟩ G (hr.mono hk) hg c.g b .nil pass0 ha hdb he hpl
theorem pe_make0H (F : HasM X.prog X.w X.K X.mg X.base x "__init__" qn st k ps sp) (c : Cl X.K X.mg x fs) (hr : Room j X.A) (hg : Gl X x) (hk : k + 1 ≤ j := by decide) (hdb : (x == ("__debug__" : Str)) = false := by decide) :
    PE X (.Call (.Name x p) [] [] pos) (tMake (cA X.mg x) sp [] E0 tNil) := by
  obtain ⟨f, fd, G, hm, fn, b⟩ := F
  exact pe_make0 ⟨c.mks, hm.at_, hm.fn, c.kp⟩ G (hr.mono hk) hg c.g b .nil pass0 hdb
end
/-! ### an instance -/
/-- at a: an instance of the class named x, its fields fs -/
structure In (K : PySem.W.Frag) (mg : Str → Option Value) (x : Str) (B : Hp) (a : Addr) (fs : List (Str × V)) : Prop where
  h : ∃ dx, B a = some (.ins (cA mg x) dx fs)
  c : Cls K (cA mg x)
  n : ∀ q ∈ fs, NoAttr K (cA mg x) q.1
theorem In.up {K : PySem.W.Frag} {mg : Str → Option Value} {x : Str} {B H : Hp} {a : Addr} {fs : List (Str × V)} (i : In K mg x B a fs) (e : Ex B H) : In K mg x H a fs := by
  obtain ⟨⟨dx, h⟩, c, n⟩ := i
  exact ⟨⟨dx, e _ _ h⟩, c, n⟩
theorem lookup_mem {f : Str} {v : V} : ∀ {fs : List (Str × V)}, fs.lookup f = some v → ∃ q ∈ fs, q.1 = f
  | [], h => by cases h
  | (g, u) :: r, h => by
    rw [List.lookup] at h
    split at h
    · rename_i hb
      exact ⟨_, List.mem_cons_self, (beq_iff_eq.mp hb).symm⟩
    · obtain ⟨q, hq, e⟩ := lookup_mem h
      exact ⟨q, List.mem_cons_of_mem _ hq, e⟩
def rFld (K : PySem.W.Frag) (f : Str) : V → Hp → VK → Prop := fun x H Q => ∃ a C dx fs v, x = .ref a ∧ H a = some (.ins C dx fs) ∧ Cls K C ∧ NoAttr K C f ∧ fs.lookup f = some v ∧ Q v H
section
variable {K : PySem.W.Frag} {mg : Str → Option Value} {x f m : Str} {B H : Hp} {Q : VK} {a C : Addr} {fs : List (Str × V)} {v : V} {σ : L2.St} {ta tv : TE} {t : TA} {D : Ends} {sp : Sp} {E : XK} {dvs : List V}
theorem sx_fld0 (q : ta σ H fun y H1 => rFld K f y H1 Q) : tFld K ta f σ H Q := q
theorem sx_fld (i : In K mg x B a fs) (e : Ex B H) (l : fs.lookup f = some v) (q : Q v H) : rFld K f (.ref a) H Q := by
  obtain ⟨⟨dx, h⟩, c, n⟩ := i
  obtain ⟨z, hz, ez⟩ := lookup_mem l
  subst ez
  exact ⟨a, _, dx, fs, v, rfl, e _ _ h, c, n z hz, l, q⟩
/-- a field is set -/
def rSFld (K : PySem.W.Frag) (f : Str) (y : V) : V → Hp → (Hp → Prop) → Prop := fun x H Q => ∃ a C dx fs, x = .ref a ∧ H a = some (.ins C dx fs) ∧ Cls K C ∧ NoAttr K C f ∧ fs.length < 1000 ∧ Q (upd H a (.ins C dx (putF f y fs)))
theorem sx_sfld0 (q : tv σ H fun y H1 => ta σ H1 fun z H2 => rSFld K f y z H2 (D.nx σ)) : sFld K ta tv f D σ H := by
  refine (?_ : tv σ H fun y H1 => ta σ H1 fun z H2 => ∃ a C dx fs, z = .ref a ∧ H2 a = some (.ins C dx fs) ∧ Cls K C ∧ NoAttr K C f ∧ fs.length < 1000 ∧ D.nx σ (upd H2 a (.ins C dx (putF f y fs))))
  exact q
theorem sx_sfld {y : V} {dx : Addr} {P : Hp → Prop} (h : H a = some (.ins C dx fs)) (c : Cls K C) (no : NoAttr K C f) (hz : fs.length < 1000) (q : ∀ H', (∀ b, b ≠ a → H' b = H b) → H' a = some (.ins C dx (putF f y fs)) → P H') : rSFld K f y (.ref a) H P :=
  ⟨a, C, dx, fs, rfl, h, c, no, hz, q _ (fun b hb => upd_ne hb) upd_same⟩
/-- o.m(..) -/
def rMeth (C : Addr) (m : Str) (k : V → Hp → Prop) : V → Hp → Prop := fun x H => ∃ a dx fs, x = .ref a ∧ H a = some (.ins C dx fs) ∧ fs.lookup m = none ∧ k x H
theorem sx_meth0 (q : ta σ H fun y H1 => rMeth C m (fun y H1 => t σ H1 fun vs H2 => sp (y :: (vs ++ dvs)) H2 Q E) y H1) : tMeth C m sp dvs E ta t σ H Q := by
  refine (?_ : ta σ H fun y H1 => ∃ a dx fs, y = .ref a ∧ H1 a = some (.ins C dx fs) ∧ fs.lookup m = none ∧ t σ H1 fun vs H2 => sp (y :: (vs ++ dvs)) H2 Q E)
  exact q
theorem sx_meth {k : V → Hp → Prop} (i : In K mg x B a fs) (e : Ex B H) (l : fs.lookup m = none) (q : k (.ref a) H) : rMeth (cA mg x) m k (.ref a) H := by
  obtain ⟨⟨dx, h⟩, _, _⟩ := i
  exact ⟨a, dx, fs, rfl, e _ _ h, l, q⟩
theorem sx_make (q : t σ H fun vs H1 => ∀ x dx, H1 x = none → H1 dx = none → dx ≠ x → sp (.ref x :: (vs ++ dvs)) (upd (upd H1 dx (.own x)) x (.ins C dx [])) (fun v H2 => v = .non ∧ Q (.ref x) H2) E) : tMake C sp dvs E t σ H Q := q
/-- a new instance that is not yet filled -/
theorem Nx.raw {M : List Addr} {dx p : Addr} (e : Ex B H) (hp : H p = none) (hd : H dx = none) (hne : dx ≠ p) {C : Addr} : Nx M B H B (upd (upd H dx (.own p)) p (.ins C dx fs)) := by
  have n1 : Nx M B H B (upd H dx (.own p)) := Nx.own e hd
  have hp1 : upd H dx (.own p) p = none := by rw [upd_ne (Ne.symm hne)]; exact hp
  exact n1.trans (Nx.own n1.h hp1) fun b _ hb z => by
    by_cases h : b = dx
    · subst h; rw [upd_same] at z; cases z
    · rw [upd_ne h] at z; exact hb z
/-- list(range(n)) -/
def rLstRg (a b : Int) (H : Hp) (Q : VK) : Prop := RgOk a b ∧ ∀ q, H q = none → Q (.ref q) (upd H q (.lst (rgV a b)))
theorem sx_lstRg1 (q : ta σ H fun y H1 => ∃ n, y = .int n ∧ rLstRg 0 n H1 Q) : tLstRg (tRg1 ta) σ H Q := q
theorem rgV0 (n : Nat) : rgV 0 (n : Int) = (List.range n).map fun (i : Nat) => V.int (i : Int) := by
  unfold rgV
  rw [show ((n : Int) - 0).toNat = n by omega]
  exact List.map_congr_left fun i _ => by rw [Int.zero_add]
theorem sx_lstRgN {n : Nat} (hn : n ≤ 100000) (e : Ex B H) (q : ∀ p H', H p = none → Nx [] B H B H' → Mu B H' p ((List.range n).map fun (i : Nat) => V.int (i : Int)) → Q (.ref p) H') : rLstRg 0 (n : Int) H Q := by
  refine ⟨⟨by omega, by omega, by omega, by omega, by omega⟩, fun p hp => ?_⟩
  rw [rgV0]
  exact q p _ hp (Nx.own e hp) (Mu.new e hp)
/-- a new tuple of a list, kept as it is -/
theorem sx_tupL {B H : Hp} {l : Addr} {xs : List V} {ds : List PyData} (e : Ex B H) (h : SqL K H l xs) (hd : DpAll K B xs ds) (q : ∀ p B' H', H p = none → Nx [] B H B' H' → Dp K B' (.ref p) (.tuple ds) → Q (.ref p) H') : rTupF K [.ref l] H Q :=
  ⟨l, xs, rfl, h, fun p o hp to => q p _ _ hp (Nx.new e hp) (fz_dp e hp hd)⟩
theorem sx_lstRg {n : Nat} (hn : n ≤ 100000) (e : Ex B H) (q : ∀ p H', H p = none → Nx [] B H B H' → Mu B H' p ((List.range n).map fun (i : Nat) => V.int (i : Int)) → Q (.ref p) H') : ∃ m : Int, V.int (n : Int) = .int m ∧ rLstRg 0 m H Q := by
  refine ⟨n, rfl, ⟨by omega, by omega, by omega, by omega, by omega⟩, fun p hp => ?_⟩
  rw [rgV0]
  exact q p _ hp (Nx.own e hp) (Mu.new e hp)
end
theorem Mu.in1 {B H : Hp} {l : Addr} {xs : List V} (m : Mu B H l xs) : H l ≠ none := by rw [m.h]; exact fun z => nomatch z
/-- a <= b < c of whole numbers -/
theorem sx_chain {σ : L2.St} {H : Hp} {Q : VK} {r1 r2 : R2} {ta tb tc : TE} (q : ta σ H fun x H1 => tb σ H1 fun y H2 => r1 x y H2 fun u H3 => ∃ k, u = .bl k ∧ if k = true then tc σ H3 fun z H4 => r2 y z H4 Q else Q (.bl false) H3) : tChain r1 r2 ta tb tc σ H Q := q
/-! ### what was one's own is frozen -/
theorem Nx.frz {M : List Addr} {B0 H0 B H : Hp} {l : Addr} {o : HO} (n : Nx M B0 H0 B H) (hl : H0 l = none) (hb : B l = none) (h : H l = some o) : Nx M B0 H0 (upd B l o) H :=
  ⟨n.b.trans (Ex.new hb), fun a u q => by
    by_cases z : a = l
    · subst z; rw [upd_same] at q; cases q; exact h
    · rw [upd_ne z] at q; exact n.h a u q, n.k, fun a q r => by
    rw [upd_ne (fun z => r (by rw [z]; exact hl))]
    exact n.f a q r⟩
/-- what stands at one place is another -/
theorem Nx.st {B H H' : Hp} {a : Addr} (e : Ex B H) (hb : B a = none) (k : ∀ b, b ≠ a → H' b = H b) : Nx [a] B H B H' :=
  ⟨Ex.refl _, fun c o h => by
    have : c ≠ a := fun z => by subst z; rw [hb] at h; cases h
    rw [k c this]; exact e c o h, fun c o h hc => by rw [k c (by simpa using hc)]; exact h, fun c h _ => h⟩
theorem Ex.frz {B H : Hp} {l : Addr} {o : HO} (e : Ex B H) (h : H l = some o) : Ex (upd B l o) H := fun a u q => by
  by_cases z : a = l
  · subst z; rw [upd_same] at q; cases q; exact h
  · rw [upd_ne z] at q; exact e a u q
theorem Mu.frzL {K : PySem.W.Frag} {B H : Hp} {l : Addr} {xs : List V} {ds : List PyData} (m : Mu B H l xs) (d : DpAll K B xs ds) : Dp K (upd B l (.lst xs)) (.ref l) (.list ds) := .lst (SqL.of upd_same) (Dps.up (Ex.new m.b) d)
theorem Mu.frzO {B H : Hp} {l l' : Addr} {xs : List V} {o : HO} (m : Mu B H l xs) (h : l ≠ l') : Mu (upd B l' o) H l xs := ⟨by rw [upd_ne h]; exact m.b, m.h⟩
/-! ### an __init__ that keeps what it is given -/
def spInit (C : Addr) (names : List Str) : Sp := fun vs H Q _ => ∃ x dx us, vs = .ref x :: us ∧ us.length = names.length ∧ H x = some (.ins C dx []) ∧ ∀ H', (∀ a, a ≠ x → H' a = H a) → H' x = some (.ins C dx (names.zip us)) → Q .non H'
section
variable {K : PySem.W.Frag} {mg : Str → Option Value} {B H H' : Hp} {a dx C : Addr} {fs : List (Str × V)}
theorem made_is (k : ∀ b, b ≠ a → H' b = upd (upd H dx (.own a)) a (.ins C dx []) b) (h : H' a = some (.ins C dx fs)) : H' = upd (upd H dx (.own a)) a (.ins C dx fs) := by
  funext b
  by_cases z : b = a
  · subst z; rw [h, upd_same]
  · rw [k b z, upd_ne z, upd_ne z]
theorem made_own (e : Ex B H) (ha : H a = none) (hd : H dx = none) (hne : dx ≠ a) (k : ∀ b, b ≠ a → H' b = upd (upd H dx (.own a)) a (.ins C dx []) b) (h : H' a = some (.ins C dx fs)) : Nx [] B H B H' := by
  rw [made_is k h]
  exact Nx.raw e ha hd hne
theorem made_frz (e : Ex B H) (ha : H a = none) (hd : H dx = none) (hne : dx ≠ a) (k : ∀ b, b ≠ a → H' b = upd (upd H dx (.own a)) a (.ins C dx []) b) (h : H' a = some (.ins C dx fs)) : Nx [] B H (upd B a (.ins C dx fs)) H' :=
  (made_own e ha hd hne k h).frz ha (e.free ha) h
/-- C(..) of such a class, kept as it is -/
theorem sx_mkF {x : Str} {names : List Str} {us : List V} {P : Addr → Hp → Prop} {E : XK} (c : Cl K mg x names) (e : Ex B H) (hl : us.length = names.length) (q : ∀ a B' H', H a = none → Nx [] B H B' H' → In K mg x B' a (names.zip us) → P a H') :
    ∀ a dx, H a = none → H dx = none → dx ≠ a → spInit (cA mg x) names (.ref a :: (us ++ [])) (upd (upd H dx (.own a)) a (.ins (cA mg x) dx [])) (fun v H2 => v = .non ∧ P a H2) E := fun a dx ha hd hne => by
  rw [List.append_nil]
  refine ⟨a, dx, us, rfl, hl, upd_same, fun H' k h => ⟨rfl, q a _ H' ha (made_frz e ha hd hne k h) ⟨⟨dx, upd_same⟩, c.cl, fun z hz => c.no _ (List.of_mem_zip hz).1⟩⟩⟩
end
/-! ### lists of one's own -/
/-- from B0, H0 on: at ls lists that may change, none of which stood at the beginning; what else may change stands in M -/
structure Own (M : List Addr) (B0 H0 B H : Hp) (ls : List (Addr × List V)) : Prop where
  n : Nx M B0 H0 B H
  m : ∀ q ∈ ls, Mu B H q.1 q.2
  o : ∀ q ∈ ls, H0 q.1 = none ∧ q.1 ∉ M
  d : (ls.map (·.1)).Nodup
  hM : ∀ a ∈ M, H a ≠ none
section
variable {M : List Addr} {B0 H0 B H B' H' : Hp} {ls : List (Addr × List V)} {l p : Addr} {xs ys : List V} {i j : Nat}
theorem Own.begin (e : Ex B H) (hM : ∀ a ∈ M, H a ≠ none) : Own M B H B H [] := ⟨Nx.refl e, (fun _ h => by cases h), (fun _ h => by cases h), List.nodup_nil, hM⟩
theorem Own.h (w : Own M B0 H0 B H ls) : Ex B H := w.n.h
theorem Own.b (w : Own M B0 H0 B H ls) : Ex B0 B := w.n.b
theorem Own.mu (w : Own M B0 H0 B H ls) (i : Nat) (h : ls[i]? = some (l, xs)) : Mu B H l xs := w.m _ (List.mem_of_getElem? h)
theorem Own.free (w : Own M B0 H0 B H ls) (i : Nat) (h : ls[i]? = some (l, xs)) : H0 l = none := (w.o _ (List.mem_of_getElem? h)).1
theorem Own.ne (w : Own M B0 H0 B H ls) (i j : Nat) (h : ls[i]? = some (l, xs)) (h' : ls[j]? = some (p, ys)) (ne : i ≠ j) : l ≠ p := fun z => by
  subst z
  have h1 : (ls.map (·.1))[i]? = some l := by rw [List.getElem?_map, h]; rfl
  have h2 : (ls.map (·.1))[j]? = some l := by rw [List.getElem?_map, h']; rfl
  have hi := (List.getElem?_eq_some_iff.mp h1).1
  exact ne ((List.getElem?_inj hi w.d).mp (h1.trans h2.symm))
theorem free_back {M : List Addr} (n : Nx M B0 H0 B H) (hM : ∀ a ∈ M, H a ≠ none) (hp : H p = none) : H0 p = none := by
  cases z : H0 p with
  | none => rfl
  | some o =>
    by_cases hm : p ∈ M
    · exact absurd hp (hM p hm)
    · have := n.k p o z hm
      rw [hp] at this
      cases this
theorem go2 {M N : List Addr} {B2 H2 : Hp} (n : Nx M B0 H0 B H) (m : Nx N B H B2 H2) (hN : ∀ a ∈ N, a ∈ M ∨ H0 a = none) (hM : ∀ a ∈ M, H0 a ≠ none → H a ≠ none) : Nx M B0 H0 B2 H2 := by
  have keep : ∀ a o, H0 a = some o → a ∉ M → H2 a = some o := fun a o h q => m.k a o (n.k a o h q) fun z => by
    rcases hN a z with y | y
    · exact q y
    · rw [y] at h
      cases h
  refine ⟨n.b.trans m.b, m.h, keep, fun a h q => m.f a (n.f a h q) ?_⟩
  by_cases z : a ∈ M
  · exact hM a z q
  · cases e : H0 a with
    | none => exact absurd e q
    | some o => rw [n.k a o e z]; exact fun y => nomatch y
theorem there {M : List Addr} (n : Nx M B H B' H') {a : Addr} (h : H a ≠ none) (ha : a ∉ M) : H' a ≠ none := by
  cases z : H a with
  | none => exact absurd z h
  | some o => rw [n.k a o z ha]; exact fun y => nomatch y
theorem Own.up (w : Own M B0 H0 B H ls) (n : Nx [] B H B' H') : Own M B0 H0 B' H' ls :=
  ⟨w.n.trans (n.wk (by simp)) fun a ha _ => w.hM a ha, fun q hq => (w.m q hq).up n, w.o, w.d, fun a ha => there n (w.hM a ha) (by simp)⟩
theorem Own.upM (w : Own M B0 H0 B H ls) (n : Nx M B H B' H') (hM : ∀ a ∈ M, H' a ≠ none) : Own M B0 H0 B' H' ls :=
  ⟨w.n.trans n fun a ha _ => w.hM a ha, fun q hq => (w.m q hq).up n (w.o q hq).2, w.o, w.d, hM⟩
theorem Own.add (w : Own M B0 H0 B H ls) (hp : H p = none) (n : Nx [] B H B H') (m : Mu B H' p xs) : Own M B0 H0 B H' (ls ++ [(p, xs)]) := by
  have w2 := w.up n
  refine ⟨w2.n, fun q hq => ?_, fun q hq => ?_, ?_, w2.hM⟩
  · rcases List.mem_append.mp hq with z | z
    · exact w2.m q z
    · rw [List.mem_singleton.mp z]; exact m
  · rcases List.mem_append.mp hq with z | z
    · exact w.o q z
    · rw [List.mem_singleton.mp z]
      exact ⟨free_back w.n w.hM hp, fun h => w.hM p h hp⟩
  · rw [List.map_append, List.nodup_append]
    refine ⟨w.d, by simp, fun a ha b hb => ?_⟩
    rw [List.map_singleton, List.mem_singleton] at hb
    subst hb
    obtain ⟨q, hq, rfl⟩ := List.mem_map.mp ha
    exact (w.m q hq).ne' hp
theorem mem_set_cases {α : Type} {a : α} : ∀ {l : List α} {i : Nat} {b : α}, a ∈ l.set i b → (∃ k, k ≠ i ∧ l[k]? = some a) ∨ a = b
  | [], _, _, h => by cases h
  | x :: r, 0, b, h => by
    rcases List.mem_cons.mp h with z | z
    · exact .inr z
    · obtain ⟨k, hk⟩ := List.mem_iff_getElem?.mp z
      exact .inl ⟨k + 1, by omega, hk⟩
  | x :: r, i + 1, b, h => by
    rcases List.mem_cons.mp h with z | z
    · exact .inl ⟨0, by omega, by rw [z]; rfl⟩
    · rcases mem_set_cases z with ⟨k, hk, e⟩ | e
      · exact .inl ⟨k + 1, by omega, e⟩
      · exact .inr e
theorem Own.put (w : Own M B0 H0 B H ls) (i : Nat) (h : ls[i]? = some (l, xs)) (n : Nx [l] B H B H') (m : Mu B H' l ys) : Own M B0 H0 B H' (ls.set i (l, ys)) := by
  have hl := w.o _ (List.mem_of_getElem? h)
  have hi := (List.getElem?_eq_some_iff.mp h).1
  refine ⟨go2 w.n n (fun a ha => ?_) (fun a ha _ => w.hM a ha), fun q hq => ?_, fun q hq => ?_, ?_, fun a ha => there n (w.hM a ha) (fun z => by rw [List.mem_singleton] at z; subst z; exact hl.2 ha)⟩
  · rw [List.mem_singleton] at ha
    subst ha
    exact .inr hl.1
  · rcases mem_set_cases hq with ⟨k, hk, e⟩ | e
    · refine (w.m q (List.mem_of_getElem? e)).up n ?_
      rw [List.mem_singleton]
      exact w.ne k i e h hk
    · rw [e]; exact m
  · rcases mem_set_cases hq with ⟨k, hk, e⟩ | e
    · exact w.o q (List.mem_of_getElem? e)
    · rw [e]; exact hl
  · rw [List.map_set]
    have : (ls.map (·.1)).set i l = ls.map (·.1) := by
      refine List.ext_getElem? fun k => ?_
      by_cases hk : i = k
      · subst hk
        rw [List.getElem?_set_self (by rw [List.length_map]; exact hi), List.getElem?_map, h]
        rfl
      · rw [List.getElem?_set_ne hk]
    show ((ls.map (·.1)).set i l).Nodup
    rw [this]
    exact w.d
theorem Own.addM (w : Own M B0 H0 B H ls) (hp : H p = none) (n : Nx M B H B' H') (hM : ∀ a ∈ M, H' a ≠ none) (m : Mu B' H' p xs) : Own M B0 H0 B' H' (ls ++ [(p, xs)]) := by
  have w2 := w.upM n hM
  refine ⟨w2.n, fun q hq => ?_, fun q hq => ?_, ?_, w2.hM⟩
  · rcases List.mem_append.mp hq with z | z
    · exact w2.m q z
    · rw [List.mem_singleton.mp z]; exact m
  · rcases List.mem_append.mp hq with z | z
    · exact w.o q z
    · rw [List.mem_singleton.mp z]
      exact ⟨free_back w.n w.hM hp, fun h => w.hM p h hp⟩
  · rw [List.map_append, List.nodup_append]
    refine ⟨w.d, by simp, fun a ha b hb => ?_⟩
    rw [List.map_singleton, List.mem_singleton] at hb
    subst hb
    obtain ⟨q, hq, rfl⟩ := List.mem_map.mp ha
    exact (w.m q hq).ne' hp
/-- a comprehension's list grows -/
theorem sx_lcO {y : V} {P : Hp → Prop} (w : Own M B0 H0 B H ls) (i : Nat) (h : ls[i]? = some (l, xs)) (hz : xs.length < 100000) (q : ∀ H', Own M B0 H0 B H' (ls.set i (l, xs ++ [y])) → Nx [l] B H B H' → P H') : ∃ acc, H l = some (.lst acc) ∧ acc.length < sizeLine ∧ P (upd H l (.lst (acc ++ [y]))) :=
  sx_lcEnd (w.mu i h) w.h hz fun H' n m => q H' (w.put i h n m) n
theorem Own.grow (w : Own M B0 H0 B H ls) (i : Nat) (h : ls[i]? = some (l, xs)) {y : V} : Own M B0 H0 B (upd H l (.lst (xs ++ [y]))) (ls.set i (l, xs ++ [y])) := w.put i h ((w.mu i h).put w.h) (w.mu i h).set
theorem Own.gn (w : Own M B0 H0 B H ls) (i : Nat) (h : ls[i]? = some (l, xs)) {y : V} : Nx [l] B H B (upd H l (.lst (xs ++ [y]))) := (w.mu i h).put w.h
theorem sx_appO {y : V} {Q : VK} (w : Own M B0 H0 B H ls) (i : Nat) (h : ls[i]? = some (l, xs)) (hz : xs.length < 100000) (q : ∀ H', Own M B0 H0 B H' (ls.set i (l, xs ++ [y])) → Nx [l] B H B H' → Q .non H') : rAppend (.ref l) [y] H Q :=
  sx_append (w.mu i h) w.h hz fun H' n m => q H' (w.put i h n m) n
theorem sx_popO {y : V} {Q : VK} (w : Own M B0 H0 B H ls) (i : Nat) (h : ls[i]? = some (l, xs ++ [y])) (q : ∀ H', Own M B0 H0 B H' (ls.set i (l, xs)) → Nx [l] B H B H' → Q y H') : rPop (.ref l) [] H Q :=
  sx_pop (w.mu i h) w.h fun H' n m => q H' (w.put i h n m) n
/-- .. begins -/
theorem Own.lc0 (w : Own M B0 H0 B H ls) (hp : H p = none) : Own M B0 H0 B (upd H p (.lst [])) (ls ++ [(p, [])]) := w.add hp (Nx.own w.h hp) (Mu.new w.h hp)
/-- a new list in the place of an elder one -/
theorem Own.rep (w : Own M B0 H0 B H ls) (i : Nat) (hp : H p = none) (n : Nx [] B H B H') (m : Mu B H' p xs) : Own M B0 H0 B H' (ls.set i (p, xs)) := by
  have w2 := w.up n
  have hf : H0 p = none ∧ p ∉ M := ⟨free_back w.n w.hM hp, fun h => w.hM p h hp⟩
  have hn : p ∉ ls.map (·.1) := fun h => by
    obtain ⟨q, hq, e⟩ := List.mem_map.mp h
    exact (w.m q hq).ne' hp e
  refine ⟨w2.n, fun q hq => ?_, fun q hq => ?_, ?_, w2.hM⟩
  · rcases mem_set_cases hq with ⟨k, _, e⟩ | e
    · exact w2.m q (List.mem_of_getElem? e)
    · rw [e]; exact m
  · rcases mem_set_cases hq with ⟨k, _, e⟩ | e
    · exact w.o q (List.mem_of_getElem? e)
    · rw [e]; exact hf
  · rw [List.map_set]
    exact nodup_set w.d hn i
where
  nodup_set {l : List Addr} {a : Addr} (d : l.Nodup) (h : a ∉ l) (i : Nat) : (l.set i a).Nodup := by
    induction l generalizing i with
    | nil => exact d
    | cons x r ih =>
      have hx := List.nodup_cons.mp d
      cases i with
      | zero => exact List.nodup_cons.mpr ⟨fun z => h (List.mem_cons_of_mem _ z), hx.2⟩
      | succ i =>
        refine List.nodup_cons.mpr ⟨fun z => ?_, ih hx.2 (fun z => h (List.mem_cons_of_mem _ z)) i⟩
        rcases List.mem_or_eq_of_mem_set z with y | y
        · exact hx.1 y
        · exact h (by rw [y]; exact List.mem_cons_self)
theorem Own.drop1 (w : Own M B0 H0 B H ls) (k : Nat) : Own M B0 H0 B H (ls.eraseIdx k) :=
  ⟨w.n, fun q hq => w.m q (List.mem_of_mem_eraseIdx hq), fun q hq => w.o q (List.mem_of_mem_eraseIdx hq), w.d.sublist ((List.eraseIdx_sublist ls k).map (·.1)), w.hM⟩
/-- one of them is frozen -/
theorem Own.frz (w : Own M B0 H0 B H ls) (i : Nat) (h : ls[i]? = some (l, xs)) : Own M B0 H0 (upd B l (.lst xs)) H (ls.eraseIdx i) := by
  have mu := w.mu i h
  have w2 := w.drop1 i
  refine ⟨w.n.frz (w.free i h) mu.b mu.h, fun q hq => ?_, w2.o, w2.d, w.hM⟩
  obtain ⟨k, hk, e⟩ : ∃ k, k ≠ i ∧ ls[k]? = some q := by
    obtain ⟨k, hk⟩ := List.mem_iff_getElem?.mp hq
    rw [List.getElem?_eraseIdx] at hk
    split at hk
    · exact ⟨k, by omega, hk⟩
    · exact ⟨k + 1, by omega, hk⟩
  exact (w.mu k (l := q.1) (xs := q.2) e).frzO (w.ne k i e h hk)
end
theorem k_pil {X : Cx} {K : PySem.W.Frag} {e tg : Expr} {t : TE} (h : X.K = K) (he : PE X e t) : PI X tg e (iList K t) := h ▸ pi_list he
theorem k_pit {X : Cx} {K : PySem.W.Frag} {e tg : Expr} {t : TE} (h : X.K = K) (he : PE X e t) : PI X tg e (iTup K t) := h ▸ pi_tup he
theorem k_tupleF {X : Cx} {K : PySem.W.Frag} (h : X.K = K) : CallR X (.type "tuple") (rTupF K) := h ▸ cl_tupleF
/-! ### what the top has left -/
theorem cA_eq {mg : Str → Option Value} {x : Str} {C : Addr} (h : mg x = some (.ref C)) : cA mg x = C := by unfold cA; rw [h]
section
variable {K : PySem.W.Frag} {h : Heap} {mg : Str → Option Value} {x : Str} {C : Addr}
theorem cl_mk {fs : List Str} (X : K.In h) (G : h.Ns mainGlobals mg) (a : PySem.W.nsIn K mainGlobals x = some (some (.ref C))) (pg : PySem.W.plainGet K C Str.empty = true) (hd : PySem.W.hasDictIn K C = true) (po : PySem.W.plainOver K C = true)
    (sa : PySem.W.findIn K (.ref C) "__setattr__" = some (some (.builtin "object.__setattr__"))) (kp : PySem.W.keepIn K (.ref C) = true) (mk : PySem.W.makesIn K C = true) (no : ∀ f ∈ fs, PySem.W.findIn K (.ref C) f = some none) : Cl K mg x fs := by
  have e := PySem.W.mg_of X G a
  have e2 := cA_eq e
  exact ⟨by rw [e2]; exact e, by rw [e2]; exact ⟨pg, hd, po, sa⟩, by rw [e2]; exact kp, by rw [e2]; exact mk, by rw [e2]; exact no⟩
theorem md_mk {m qn : Str} {st : Stmt} {f : Addr} {oc kV doc pm cdv ct : Value} {od an : Option Addr} {osl : Array (Option Value)} (X : K.In h) (G : h.Ns mainGlobals mg) (a : PySem.W.nsIn K mainGlobals x = some (some (.ref C))) (b : PySem.W.findIn K (.ref C) m = some (some (.ref f)))
    (i : PySem.W.isFn K (.ref f) = true) (l : K.lookup f = some ⟨oc, od, .func (PySem.W.fnOf m qn (defArgs st) (defBody st) (defScope st) .none kV doc pm an cdv ct), osl⟩) (c : PySem.W.codeIn K cdv qn = true) (k : PySem.W.keepIn K (.ref f) = true) : Md K mg x m qn st := by
  have e2 := cA_eq (PySem.W.mg_of X G a)
  exact ⟨f, _, by rw [e2]; exact ⟨b, i, k⟩, fun_mk l c k⟩
end
end G

namespace G
open PySem L2
/-! ### draws: a list of a list of numbers and a number -/
def big : Int := 10 ^ 384
structure Deal (B H : Hp) (d l : Addr) : Prop where
  ex : ∃ (cs : List Int) (mix : Int), Mu B H d [.ref l, .int mix] ∧ Mu B H l (cs.map V.int) ∧ (∀ c ∈ cs, 0 ≤ c ∧ c < big) ∧ cs.length ≤ 63 ∧ 0 ≤ mix ∧ mix < 2147483647
theorem Deal.ne {B H : Hp} {d l : Addr} (h : Deal B H d l) : d ≠ l := by
  obtain ⟨cs, mix, m1, m2, _⟩ := h
  intro e
  subst e
  have := m1.h.symm.trans m2.h
  cases cs with
  | nil => cases this
  | cons c r => cases this
theorem Deal.off {B H : Hp} {d l p : Addr} (h : Deal B H d l) (hp : H p = none) : p ≠ d ∧ p ≠ l := by
  obtain ⟨cs, mix, m1, m2, _⟩ := h
  exact ⟨m1.ne hp, m2.ne hp⟩
theorem Deal.up {M : List Addr} {B H B' H' : Hp} {d l : Addr} (h : Deal B H d l) (n : Nx M B H B' H') (hm : d ∉ M ∧ l ∉ M := by simp) : Deal B' H' d l := by
  obtain ⟨cs, mix, m1, m2, r⟩ := h
  exact ⟨cs, mix, m1.up n hm.1, m2.up n hm.2, r⟩
theorem Deal.in {B H : Hp} {d l : Addr} (h : Deal B H d l) : ∀ a ∈ [d, l], H a ≠ none := by
  obtain ⟨cs, mix, m1, m2, _⟩ := h
  intro a ha
  simp only [List.mem_cons, List.not_mem_nil, or_false] at ha
  rcases ha with rfl | rfl
  · rw [m1.h]; exact fun z => nomatch z
  · rw [m2.h]; exact fun z => nomatch z
/-- steps of draws -/
theorem Deal.tr {B H B1 H1 B2 H2 : Hp} {d l : Addr} (m : Nx [d, l] B H B1 H1) (k : Deal B1 H1 d l) (n : Nx [d, l] B1 H1 B2 H2) : Nx [d, l] B H B2 H2 := m.trans n fun a ha _ => k.in a ha
theorem Nx.go {M N : List Addr} {B H B1 H1 B2 H2 : Hp} (n : Nx M B H B1 H1) (m : Nx N B1 H1 B2 H2) (hN : ∀ a ∈ N, a ∈ M ∨ H a = none) (hM : ∀ a ∈ M, H a ≠ none → H1 a ≠ none) : Nx M B H B2 H2 :=
  ⟨n.b.trans m.b, m.h, fun a o h q => m.k a o (n.k a o h q) fun z => (by
    rcases hN a z with h1 | h1
    · exact q h1
    · rw [h1] at h; cases h), fun a h q => m.f a (n.f a h q) (by
    by_cases z : a ∈ M
    · exact hM a z q
    · intro y
      cases e : H a with
      | none => exact q e
      | some o => rw [n.k a o e z] at y; cases y)⟩
/-- a step behind draws -/
theorem Deal.go {N : List Addr} {B H B1 H1 B2 H2 : Hp} {d l : Addr} (n : Nx [d, l] B H B1 H1) (D : Deal B1 H1 d l) (m : Nx N B1 H1 B2 H2) (hN : ∀ a ∈ N, a ∈ [d, l] ∨ H a = none := by simp) : Nx [d, l] B H B2 H2 := n.go m hN fun a ha _ => D.in a ha
/-- pure first, then draws -/
theorem Deal.via {B H B1 H1 B2 H2 : Hp} {d l : Addr} (n : Nx [] B H B1 H1) (D : Deal B1 H1 d l) (m : Nx [d, l] B1 H1 B2 H2) : Nx [d, l] B H B2 H2 := (n.wk (by simp)).trans m fun a ha _ => D.in a ha
end G
namespace C
open PySem L2 G
/-! ### the text by places -/
def top (i : Nat) : Stmt := PySem.Challenge.pw_typedback_k34_runs_with_marks.main.body.getD i (.Pass ⟨0, 0, 0, 0⟩)
abbrev s_wall : Stmt := top 0
abbrev s_is_integer : Stmt := top 2
abbrev s_is_number : Stmt := top 3
abbrev s_is_number_below : Stmt := top 4
abbrev s_gone : Stmt := top 11
abbrev s_marks_within : Stmt := top 15
abbrev s_marked_run : Stmt := top 17
abbrev s_plain_events : Stmt := top 18
abbrev s_law_deal : Stmt := top 20
abbrev s_law_any : Stmt := top 21
abbrev s_law_of : Stmt := top 22
abbrev s_law_mixed : Stmt := top 23
abbrev s_law_same : Stmt := top 24
abbrev s_law_all : Stmt := top 25
abbrev s_law_all_let : Stmt := top 26
abbrev s_law_letter : Stmt := top 27
abbrev s_law_marked : Stmt := top 28
abbrev s_law_mark_events : Stmt := top 29
abbrev s_law : Stmt := top 30
abbrev s_Machine___init__ : Stmt := clsMeth (top 7) 0
abbrev s_Machine___eq__ : Stmt := clsMeth (top 7) 1
abbrev s_Going___init__ : Stmt := clsMeth (top 10) 0
abbrev s_Going_state : Stmt := clsMeth (top 10) 1
abbrev s_Going_end_of : Stmt := clsMeth (top 10) 2
abbrev s_Going_do : Stmt := clsMeth (top 10) 3
abbrev s_Going_undo : Stmt := clsMeth (top 10) 4
abbrev s_Going_go : Stmt := clsMeth (top 10) 5
abbrev s_Going_possible : Stmt := clsMeth (top 10) 6
abbrev s_Going_kinds : Stmt := clsMeth (top 10) 7
abbrev s_MarkedGoing___init__ : Stmt := clsMeth (top 16) 0
abbrev s_MarkedGoing_high : Stmt := clsMeth (top 16) 1
abbrev s_MarkedGoing_go_plainly : Stmt := clsMeth (top 16) 2
abbrev s_MarkedGoing_go_back : Stmt := clsMeth (top 16) 3
abbrev s_MarkedGoing_go : Stmt := clsMeth (top 16) 4
structure Txt (w : World) (K : PySem.W.Frag) (mg : Str → Option Value) : Prop where
  d_wall : Df K mg "_wall" s_wall
  d_is_integer : Df K mg "is_integer" s_is_integer
  d_is_number : Df K mg "is_number" s_is_number
  d_is_number_below : Df K mg "is_number_below" s_is_number_below
  d_gone : Df K mg "gone" s_gone
  d_marks_within : Df K mg "marks_within" s_marks_within
  d_marked_run : Df K mg "marked_run" s_marked_run
  d_plain_events : Df K mg "plain_events" s_plain_events
  d_law_deal : Df K mg "_law_deal" s_law_deal
  d_law_any : Df K mg "_law_any" s_law_any
  d_law_of : Df K mg "_law_of" s_law_of
  d_law_mixed : Df K mg "_law_mixed" s_law_mixed
  d_law_same : Df K mg "_law_same" s_law_same
  d_law_all : Df K mg "_law_all" s_law_all
  d_law_all_let : Df K mg "_law_all_let" s_law_all_let
  d_law_letter : Df K mg "_law_letter" s_law_letter
  d_law_marked : Df K mg "_law_marked" s_law_marked
  d_law_mark_events : Df K mg "_law_mark_events" s_law_mark_events
  d_law : Df K mg "law" s_law
  b_abs : mg "abs" = none
  b_bool : mg "bool" = none
  b_int : mg "int" = none
  b_isinstance : mg "isinstance" = none
  b_len : mg "len" = none
  b_list : mg "list" = none
  b_range : mg "range" = none
  b_str : mg "str" = none
  b_tuple : mg "tuple" = none
  g_BARRED : ∃ t, mg "BARRED" = some (.int (-1) t)
  g_UNDO : ∃ t, mg "UNDO" = some (.int (-1) t)
  g_MARK : ∃ t, mg "MARK" = some (.int (-2) t)
  g_BACK : ∃ t, mg "BACK" = some (.int (-3) t)
  c_Machine : Cl K mg "Machine" ["states", "says", "start", "commands", "kinds", "table"]
  m_Machine___init__ : Md K mg "Machine" "__init__" "Machine.__init__" s_Machine___init__
  m_Machine___eq__ : Md K mg "Machine" "__eq__" "Machine.__eq__" s_Machine___eq__
  c_Going : Cl K mg "Going" ["machine", "way", "commands"]
  m_Going___init__ : Md K mg "Going" "__init__" "Going.__init__" s_Going___init__
  m_Going_state : Md K mg "Going" "state" "Going.state" s_Going_state
  m_Going_end_of : Md K mg "Going" "end_of" "Going.end_of" s_Going_end_of
  m_Going_do : Md K mg "Going" "do" "Going.do" s_Going_do
  m_Going_undo : Md K mg "Going" "undo" "Going.undo" s_Going_undo
  m_Going_go : Md K mg "Going" "go" "Going.go" s_Going_go
  m_Going_possible : Md K mg "Going" "possible" "Going.possible" s_Going_possible
  m_Going_kinds : Md K mg "Going" "kinds" "Going.kinds" s_Going_kinds
  c_MarkedGoing : Cl K mg "MarkedGoing" ["going", "marks", "plain"]
  m_MarkedGoing___init__ : Md K mg "MarkedGoing" "__init__" "MarkedGoing.__init__" s_MarkedGoing___init__
  m_MarkedGoing_high : Md K mg "MarkedGoing" "high" "MarkedGoing.high" s_MarkedGoing_high
  m_MarkedGoing_go_plainly : Md K mg "MarkedGoing" "go_plainly" "MarkedGoing.go_plainly" s_MarkedGoing_go_plainly
  m_MarkedGoing_go_back : Md K mg "MarkedGoing" "go_back" "MarkedGoing.go_back" s_MarkedGoing_go_back
  m_MarkedGoing_go : Md K mg "MarkedGoing" "go" "MarkedGoing.go" s_MarkedGoing_go
theorem sc_wall : FnScope ["k"] ["k"] (defScope s_wall) := ⟨rfl, rfl, rfl, by decide +kernel, rfl, by decide +kernel, by decide +kernel⟩
theorem sc_is_integer : FnScope ["value"] ["value"] (defScope s_is_integer) := ⟨rfl, rfl, rfl, by decide +kernel, rfl, by decide +kernel, by decide +kernel⟩
theorem sc_is_number : FnScope ["value"] ["value"] (defScope s_is_number) := ⟨rfl, rfl, rfl, by decide +kernel, rfl, by decide +kernel, by decide +kernel⟩
theorem sc_is_number_below : FnScope ["value", "bound"] ["value", "bound"] (defScope s_is_number_below) := ⟨rfl, rfl, rfl, by decide +kernel, rfl, by decide +kernel, by decide +kernel⟩
theorem sc_gone : FnScope ["machine", "events", "going", "found", "event"] ["machine", "events"] (defScope s_gone) := ⟨rfl, rfl, rfl, by decide +kernel, rfl, by decide +kernel, by decide +kernel⟩
theorem sc_marks_within : FnScope ["marks", "depth", "mark"] ["marks", "depth"] (defScope s_marks_within) := ⟨rfl, rfl, rfl, by decide +kernel, rfl, by decide +kernel, by decide +kernel⟩
theorem sc_marked_run : FnScope ["machine", "events", "going", "found", "event"] ["machine", "events"] (defScope s_marked_run) := ⟨rfl, rfl, rfl, by decide +kernel, rfl, by decide +kernel, by decide +kernel⟩
theorem sc_plain_events : FnScope ["machine", "events", "going", "event"] ["machine", "events"] (defScope s_plain_events) := ⟨rfl, rfl, rfl, by decide +kernel, rfl, by decide +kernel, by decide +kernel⟩
theorem sc_law_deal : FnScope ["script", "salt", "most", "cells", "cell", "mix"] ["script", "salt"] (defScope s_law_deal) := ⟨rfl, rfl, rfl, by decide +kernel, rfl, by decide +kernel, by decide +kernel⟩
theorem sc_law_any : FnScope ["deal", "bound", "rest"] ["deal", "bound"] (defScope s_law_any) := ⟨rfl, rfl, rfl, by decide +kernel, rfl, by decide +kernel, by decide +kernel⟩
theorem sc_law_of : FnScope ["deal", "some"] ["deal", "some"] (defScope s_law_of) := ⟨rfl, rfl, rfl, by decide +kernel, rfl, by decide +kernel, by decide +kernel⟩
theorem sc_law_mixed : FnScope ["deal", "some", "left", "found", "turn"] ["deal", "some"] (defScope s_law_mixed) := ⟨rfl, rfl, rfl, by decide +kernel, rfl, by decide +kernel, by decide +kernel⟩
theorem sc_law_same : FnScope ["told", "due", "at"] ["told", "due"] (defScope s_law_same) := ⟨rfl, rfl, rfl, by decide +kernel, rfl, by decide +kernel, by decide +kernel⟩
theorem sc_law_all : FnScope ["pairs", "told", "due"] ["pairs"] (defScope s_law_all) := ⟨rfl, rfl, rfl, by decide +kernel, rfl, by decide +kernel, by decide +kernel⟩
theorem sc_law_all_let : FnScope ["deal", "most", "hands", "many", "width", "columns", "state", "turn", "sort", "column", "kinds", "names", "commands", "at", "table"] ["deal", "most", "hands"] (defScope s_law_all_let) := ⟨rfl, rfl, rfl, by decide +kernel, rfl, by decide +kernel, by decide +kernel⟩
theorem sc_law_letter : FnScope ["number"] ["number"] (defScope s_law_letter) := ⟨rfl, rfl, rfl, by decide +kernel, rfl, by decide +kernel, by decide +kernel⟩
theorem sc_law_marked : FnScope ["table", "width", "events", "way", "marks", "plain", "found", "event", "goal", "mark"] ["table", "width", "events"] (defScope s_law_marked) := ⟨rfl, rfl, rfl, by decide +kernel, rfl, by decide +kernel, by decide +kernel⟩
theorem sc_law_mark_events : FnScope ["deal", "table", "width", "many", "events", "turn", "some", "fits", "event"] ["deal", "table", "width", "many"] (defScope s_law_mark_events) := ⟨rfl, rfl, rfl, by decide +kernel, rfl, by decide +kernel, by decide +kernel⟩
theorem sc_law : FnScope ["script", "deal", "pairs", "turn", "machine", "columns", "kinds", "width", "table", "row", "events", "due", "told", "plain", "walked", "bad", "at", "late", "ring", "run"] ["script"] (defScope s_law) := ⟨rfl, rfl, rfl, by decide +kernel, rfl, by decide +kernel, by decide +kernel⟩
theorem sc_Machine___init__ : FnScope ["self", "states", "says", "start", "commands", "kinds", "table"] ["self", "states", "says", "start", "commands", "kinds", "table"] (defScope s_Machine___init__) := ⟨rfl, rfl, rfl, by decide +kernel, rfl, by decide +kernel, by decide +kernel⟩
theorem sc_Machine___eq__ : FnScope ["self", "other"] ["self", "other"] (defScope s_Machine___eq__) := ⟨rfl, rfl, rfl, by decide +kernel, rfl, by decide +kernel, by decide +kernel⟩
theorem sc_Going___init__ : FnScope ["self", "machine"] ["self", "machine"] (defScope s_Going___init__) := ⟨rfl, rfl, rfl, by decide +kernel, rfl, by decide +kernel, by decide +kernel⟩
theorem sc_Going_state : FnScope ["self"] ["self"] (defScope s_Going_state) := ⟨rfl, rfl, rfl, by decide +kernel, rfl, by decide +kernel, by decide +kernel⟩
theorem sc_Going_end_of : FnScope ["self", "command"] ["self", "command"] (defScope s_Going_end_of) := ⟨rfl, rfl, rfl, by decide +kernel, rfl, by decide +kernel, by decide +kernel⟩
theorem sc_Going_do : FnScope ["self", "command", "end"] ["self", "command"] (defScope s_Going_do) := ⟨rfl, rfl, rfl, by decide +kernel, rfl, by decide +kernel, by decide +kernel⟩
theorem sc_Going_undo : FnScope ["self"] ["self"] (defScope s_Going_undo) := ⟨rfl, rfl, rfl, by decide +kernel, rfl, by decide +kernel, by decide +kernel⟩
theorem sc_Going_go : FnScope ["self", "event"] ["self", "event"] (defScope s_Going_go) := ⟨rfl, rfl, rfl, by decide +kernel, rfl, by decide +kernel, by decide +kernel⟩
theorem sc_Going_possible : FnScope ["self"] ["self"] (defScope s_Going_possible) := ⟨rfl, rfl, rfl, by decide +kernel, rfl, by decide +kernel, by decide +kernel⟩
theorem sc_Going_kinds : FnScope ["self", "command"] ["self"] (defScope s_Going_kinds) := ⟨rfl, rfl, rfl, by decide +kernel, rfl, by decide +kernel, by decide +kernel⟩
theorem sc_MarkedGoing___init__ : FnScope ["self", "machine"] ["self", "machine"] (defScope s_MarkedGoing___init__) := ⟨rfl, rfl, rfl, by decide +kernel, rfl, by decide +kernel, by decide +kernel⟩
theorem sc_MarkedGoing_high : FnScope ["self"] ["self"] (defScope s_MarkedGoing_high) := ⟨rfl, rfl, rfl, by decide +kernel, rfl, by decide +kernel, by decide +kernel⟩
theorem sc_MarkedGoing_go_plainly : FnScope ["self", "event"] ["self", "event"] (defScope s_MarkedGoing_go_plainly) := ⟨rfl, rfl, rfl, by decide +kernel, rfl, by decide +kernel, by decide +kernel⟩
theorem sc_MarkedGoing_go_back : FnScope ["self", "goal"] ["self"] (defScope s_MarkedGoing_go_back) := ⟨rfl, rfl, rfl, by decide +kernel, rfl, by decide +kernel, by decide +kernel⟩
theorem sc_MarkedGoing_go : FnScope ["self", "event"] ["self", "event"] (defScope s_MarkedGoing_go) := ⟨rfl, rfl, rfl, by decide +kernel, rfl, by decide +kernel, by decide +kernel⟩
end C
local macro_rules | `(tactic| walk_at "exs") => `(tactic| repeat (first | with_reducible exact G.Ex.refl _ | with_reducible assumption | with_reducible exact G.Nx.b (by with_reducible assumption) | with_reducible exact G.Nx.h (by with_reducible assumption) | (refine G.Ex.trans ?_ (G.Nx.b (by with_reducible assumption)))))
local macro_rules | `(tactic| walk_at "e") => `(tactic| first | with_reducible assumption | exact G.Nx.h (by with_reducible assumption))
local macro_rules | `(tactic| walk_at "d") => `(tactic| first | with_reducible assumption | (refine G.Dp.up (B := ?_) ?_ (by with_reducible assumption); walk_at "exs") | (refine G.Dps.up (B := ?_) ?_ (by with_reducible assumption); walk_at "exs"))
local macro_rules | `(tactic| walk_at "sx2") => `(tactic| first
  | (with_reducible refine G.sx_mod ?h ?_; (case h => first | omega | assumption))
  | (with_reducible refine G.sx_div ?h ?h1 ?_; (case h => first | omega | assumption); (case h1 => first | omega | assumption))
  | (with_reducible refine G.sx_mul64 ?h ?h1 ?_; (case h => omega); (case h1 => omega)))
local macro_rules | `(tactic| walk_at "sx1") => `(tactic| with_reducible (first
  | refine G.sx_seq ?_ | refine G.sx_asg ?_ | refine G.sx_gname ?_ | refine G.sx_drop ?_ | refine G.sx_ret ?_ | refine G.sx_retN ?_ | refine G.sx_ifS ?_ | refine G.sx_next ?_ | refine G.sx_par ?_ | refine G.sx_par2 ?_ | refine G.sx_lcL ?_ | refine G.sx_lcT ?_ | refine G.sx_lcR ?_ | refine G.sx_forL ?_ | refine G.sx_forT ?_ | refine G.sx_forR ?_ | refine G.sx_forR2 ?_ | refine G.sx_forD ?_ | refine G.sx_lcD ?_ | refine G.sx_sl ?_ | refine G.sx_noPart ?_ | refine G.sx_part ?_ | refine G.sx_isI ?_ | refine G.sx_revL ?_
  | refine G.sx_var rfl ?_ | refine G.sx_c ?_ | refine G.sx_op ?_ | refine G.sx_un ?_ | refine G.sx_I0 ?_ | refine G.sx_U ?_ | refine G.sx_isBV ?_ | refine G.sx_isN ?_ | refine G.sx_notN ?_ | refine G.sx_test ?_ | refine G.sx_tB ?_ | refine G.sx_isB ?_
  | refine G.sx_not ?_ | refine G.sx_and ?_ | refine G.sx_or ?_ | refine G.sx_andV ?_ | refine G.sx_orV ?_ | refine G.sx_notV ?_ | refine G.sx_if ?_ | refine G.sx_nil ?_ | refine G.sx_cons ?_ | refine G.sx_cb ?_ | refine G.sx_call ?_
  | refine G.sx_ixL (G.Mu.sq (by with_reducible assumption)) rfl ?_ | refine G.sx_ixL (by with_reducible assumption) rfl ?_ | refine G.sx_ixT (by with_reducible assumption) rfl ?_
  | refine G.sx_isInt (by walk_at "d") (by walk_at "e") ?_ | refine G.sx_isBool (by walk_at "d") (by walk_at "e") ?_ | refine G.sx_isStr (by walk_at "d") (by walk_at "e") ?_ | refine G.sx_isTup (by walk_at "d") (by walk_at "e") ?_ | refine G.sx_isList (by walk_at "d") (by walk_at "e") ?_ | refine G.sx_isDict (by walk_at "d") (by walk_at "e") ?_
  | refine G.sx_bm0 ?_ | refine G.sx_bm ?_ | refine G.sx_tyL (by with_reducible assumption) ?_ | refine G.sx_tyL (G.Mu.sq (by with_reducible assumption)) ?_ | refine G.sx_gsub ?_ | refine G.sx_GT ?_ | refine G.sx_GD ?_ | refine G.sx_yes ?_ | refine G.sx_tupF ?_ | refine G.sx_revT ?_ | refine G.sx_callK ?_ | refine G.sx_dget ?_ | refine G.sx_tup ?_ | refine G.sx_lst ?_
  | refine G.sx_lenL (by with_reducible assumption) ?_ | refine G.sx_lenL (G.Mu.sq (by with_reducible assumption)) ?_ | refine G.sx_int ?_ | refine G.sx_abs ?_ | refine G.sx_min ?_ | refine G.sx_max ?_ | refine G.sx_raise1 ?_ | refine G.sx_one ?_ | refine G.sx_xf ?_ | refine G.sx_callS ?_ | refine G.sx_callXK ?_ | refine G.sx_fld0 ?_ | refine G.sx_fld (by with_reducible assumption) (by walk_at "e") rfl ?_ | refine G.sx_sfld0 ?_ | refine G.sx_meth0 ?_ | refine G.sx_meth (by with_reducible assumption) (by walk_at "e") rfl ?_ | refine G.sx_make ?_ | refine G.sx_lstRg1 ?_ | refine G.sx_eq rfl ?_ | refine G.sx_ne rfl ?_))
local macro_rules | `(tactic| walk_at "sx") => `(tactic| repeat (first | walk_at "sx1" | walk_at "sx2"))
local macro_rules | `(tactic| walk_at "st") => `(tactic| simp only [List.set_cons_zero, List.set_cons_succ, L2.wipe, List.map_cons, List.map_nil])
local macro_rules | `(tactic| walk_at "go") => `(tactic| ((try dsimp only [L2.cxOf, L2.Cx.nox, L2.Cx.wish]); simp only [L2.start, List.map_cons, List.map_nil, List.length_cons, List.length_nil, Nat.zero_add, Nat.reduceAdd, Nat.reduceSub, List.reduceReplicate, List.cons_append, List.nil_append]; walk_at "sx"))
local macro_rules | `(tactic| walk_at "dv") => `(tactic| repeat' (first
  | with_reducible exact G.DVs.nil | with_reducible refine G.DVs.cons ?_ ?_ | with_reducible exact G.DV.str | with_reducible exact G.DV.int | with_reducible exact G.DV.bl | with_reducible exact G.DV.non | with_reducible exact G.DV.neg | exact G.DV.sub
  | exact G.DV.var rfl (by walk_at "d") | with_reducible refine G.DV.tup ?_ ?_ | with_reducible refine G.DV.lst ?_ ?_ | with_reducible refine G.DV.listT ?_ | exact G.DV.ix0 rfl (by walk_at "d") | refine G.DV.mulS ?_ ?_
  | ((with_reducible refine Nat.le_of_ble_eq_true ?_); rfl) | assumption))
namespace C
open PySem L2 G
section
variable {P : Program} {w : World} {K : PySem.W.Frag} {mg : Str → Option Value} {base : Heap}
/-- _law_any: a number below a bound -/
def spAny : Sp := fun vs H Q _ => ∃ (B : Hp) (d l : Addr) (b : Int), vs = [.ref d, .int b] ∧ Ex B H ∧ Deal B H d l ∧ 0 < b ∧ b < 1073741824 ∧
  ∀ B' H' r, Nx [d, l] B H B' H' → Deal B' H' d l → 0 ≤ r → r < b → Q (.int r) H'
theorem ok_law_any (T : Txt w K mg) : Has P w K mg base "_law_any" s_law_any 1 ["deal", "bound"] spAny := by
  refine has_mk T.d_law_any sc_law_any (fun _ _ _ _ _ _ us hl => match us, hl with | [_, _], _ => rfl) (fun vs H Q E h => ?_) (fun f cdv A outer s H vs Q E hr h => ?_)
  · obtain ⟨_, _, _, _, rfl, _⟩ := h
    rfl
  · obtain ⟨B, d, l, b, rfl, e, hD, b0, b1, k⟩ := h
    refine ⟨_, (G.pss_cut (ps_while PassesOwn.never (PW.pt (pw_and (pt_cmpR op_gt (pe_callB cl_len (by rfl) T.b_len (by decide +kernel) (pa_cons (pe_ix ix_list (pv 0) pe_int (fun _ _ => rfl)) pa_nil)) pe_int (nomark _)) (pw_and1 (pt_cmpR op_eq (pe_ix ix_list (pe_ix ix_list (pv 0) pe_int (fun _ _ => rfl)) (pe_un un_neg pe_int) (fun _ _ => rfl)) pe_int (nomark _)))))
      (pss_one (ps_expr (pe_bm0 PySem.F.plainAttrs_list PySem.F.slot_list_pop PySem.F.type_list_pop mt_pop (pe_ix ix_list (pv 0) pe_int (fun _ _ => rfl))))))
      (pss_cons (ps_if (pt_cmpR op_gt (pe_callB cl_len (by rfl) T.b_len (by decide +kernel) (pa_cons (pe_ix ix_list (pv 0) pe_int (fun _ _ => rfl)) pa_nil)) pe_int (nomark _))
      (pss_cons (ps_set (i := 2) sc_law_any.nd rfl (.inl rfl) (pe_callTy cl_int (by rfl) T.b_int (by decide +kernel) (pa_cons (pe_bm0 PySem.F.plainAttrs_list PySem.F.slot_list_pop PySem.F.type_list_pop mt_pop (pe_ix ix_list (pv 0) pe_int (fun _ _ => rfl))) pa_nil)))
      (pss_cons (ps_expr (pe_bm PySem.F.plainAttrs_list PySem.F.slot_list_append PySem.F.type_list_append mt_append (pe_ix ix_list (pv 0) pe_int (fun _ _ => rfl)) (pa_cons (pe_op op_fdiv (pv 2) (pv 1)) pa_nil)))
      (pss_one (ps_ret (pe_op op_mod (pv 2) (pv 1))))))
      pss_nil)
      (pss_cons (ps_asg (pe_op op_mod (pe_callTy cl_int (by rfl) T.b_int (by decide +kernel) (pa_cons (pe_op op_add (pe_op op_mulW (pe_ix ix_list (pv 0) pe_int (fun _ _ => rfl)) pe_int) pe_int) pa_nil)) pe_int) (pg_sub (pv 0) pe_int set_list))
      (pss_one (ps_ret (pe_op op_mod (pe_callTy cl_int (by rfl) T.b_int (by decide +kernel) (pa_cons (pe_op op_fdiv (pe_ix ix_list (pv 0) pe_int (fun _ _ => rfl)) pe_int) pa_nil)) (pv 1))))))), ?_⟩
    have hne := hD.ne
    walk_at "go"
    refine G.sx_cut (fun σ H' => ∃ (B' : Hp) (cs : List Int) (mix : Int), σ = [some (.ref d), some (.int b), none] ∧ Nx [d, l] B H B' H' ∧ Mu B' H' d [.ref l, .int mix] ∧ Mu B' H' l (cs.map V.int) ∧ (∀ c ∈ cs, 0 ≤ c ∧ c < big) ∧ cs.length ≤ 63 ∧ 0 ≤ mix ∧ mix < 2147483647) ?_ ?_
    · refine ⟨fun m σ H' => ∃ (B' : Hp) (cs : List Int) (mix : Int), m = cs.length ∧ σ = [some (.ref d), some (.int b), none] ∧ Nx [d, l] B H B' H' ∧ Mu B' H' d [.ref l, .int mix] ∧ Mu B' H' l (cs.map V.int) ∧ (∀ c ∈ cs, 0 ≤ c ∧ c < big) ∧ cs.length ≤ 63 ∧ 0 ≤ mix ∧ mix < 2147483647, ?_, ?_⟩
      · obtain ⟨cs, mix, m1, m2, r1, r2, r3, r4⟩ := hD
        exact ⟨_, B, cs, mix, rfl, rfl, Nx.refl e, m1, m2, r1, r2, r3, r4⟩
      · rintro m σ H1 ⟨B1, cs, mix, rfl, rfl, n1, m1, m2, r1, r2, r3, r4⟩
        walk_at "sx"
        by_cases hz : cs = []
        · refine ifF (dF (by rw [hz]; simp)) ?_
          exact ⟨B1, cs, mix, rfl, n1, m1, m2, r1, r2, r3, r4⟩
        · obtain ⟨r, z, rfl⟩ := snoc_of hz
          have hin : ∀ a ∈ [d, l], H a ≠ none → H1 a ≠ none := fun a ha _ => (⟨_, _, m1, m2, r1, r2, r3, r4⟩ : Deal B1 H1 d l).in a ha
          refine ifT (dT (by simp)) ?_
          walk_at "sx"
          rw [List.map_append] at m2
          refine sx_ixL m2.sq atI_end ?_
          walk_at "sx"
          by_cases h0 : z = 0
          · refine ifT (int_eqT h0) ?_
            refine ⟨_, fun _ _ h => h, ?_⟩
            walk_at "sx"
            refine sx_pop m2 n1.h fun H2 n2 m2' => ?_
            refine ⟨r.length, by simp, B1, r, mix, rfl, rfl, n1.trans (n2.wk (by simp)) hin, m1.up n2 (by simp [hne]), by simpa using m2', fun c hc => r1 c (by simp [hc]), by simp at r2; omega, r3, r4⟩
          · refine ifF (int_eqF h0) ?_
            exact ⟨B1, r ++ [z], mix, rfl, n1, m1, by rw [List.map_append]; exact m2, r1, r2, r3, r4⟩
    · rintro σ H1 ⟨B1, cs, mix, rfl, n1, m1, m2, r1, r2, r3, r4⟩
      have hin : ∀ a ∈ [d, l], H a ≠ none → H1 a ≠ none := fun a ha _ => (⟨_, _, m1, m2, r1, r2, r3, r4⟩ : Deal B1 H1 d l).in a ha
      walk_at "sx"
      by_cases hz : cs = []
      · refine ifF (dF (by rw [hz]; simp)) ?_
        walk_at "sx"
        refine sx_setL m1 n1.h rfl fun H2 n2 m1' => ?_
        walk_at "sx"
        refine k B1 H2 _ (n1.trans (n2.wk (by simp)) hin) ⟨cs, _, m1', m2.up n2 (by simp [hne.symm]), r1, r2, ?_, ?_⟩ (Int.emod_nonneg _ (by omega)) (Int.emod_lt_of_pos _ b0)
        · exact Int.emod_nonneg _ (by omega)
        · exact Int.emod_lt_of_pos _ (by omega)
      · obtain ⟨r, z, rfl⟩ := snoc_of hz
        have z0 := r1 z (by simp)
        refine ifT (dT (by simp)) ?_
        rw [List.map_append] at m2
        walk_at "sx"
        refine sx_pop m2 n1.h fun H2 n2 m2' => ?_
        have m1' := m1.up n2 (by simp [hne])
        walk_at "sx"
        refine sx_append m2' n2.h (by simp at r2 ⊢; omega) fun H3 n3 m2'' => ?_
        have m1'' := m1'.up n3 (by simp [hne])
        walk_at "sx"
        refine k B1 H3 _ ((n1.trans (n2.wk (by simp)) hin).trans (n3.wk (by simp)) ?_) ⟨r ++ [z / b], mix, m1'', ?_, ?_, ?_, r3, r4⟩ (Int.emod_nonneg _ (by omega)) (Int.emod_lt_of_pos _ b0)
        · intro a ha _
          simp only [List.mem_cons, List.not_mem_nil, or_false] at ha
          rcases ha with rfl | rfl
          · rw [m1'.h]; exact fun z => nomatch z
          · rw [m2'.h]; exact fun z => nomatch z
        · rw [List.map_append]
          exact m2''
        · intro c hc
          rcases List.mem_append.mp hc with h | h
          · exact r1 c (by simp [h])
          · rw [List.mem_singleton] at h
            subst h
            exact ⟨Int.ediv_nonneg z0.1 (by omega), Int.lt_of_le_of_lt (Int.ediv_le_self b z0.1) z0.2⟩
        · simp at r2 ⊢
          omega
end
end C
namespace C
open PySem L2 G
section
variable {P : Program} {w : World} {K : PySem.W.Frag} {mg : Str → Option Value} {base : Heap}
/-- _law_of: one of some things -/
def spOf (K : PySem.W.Frag) : Sp := fun vs H Q _ => ∃ (B : Hp) (d l a : Addr) (xs : List V), vs = [.ref d, .ref a] ∧ Ex B H ∧ Deal B H d l ∧ SqL K H a xs ∧ a ≠ d ∧ a ≠ l ∧ 0 < xs.length ∧ xs.length < 100000 ∧
  ∀ B' H' (i : Nat) v, Nx [d, l] B H B' H' → Deal B' H' d l → xs[i]? = some v → Q v H'
theorem ok_law_of (T : Txt w K mg) : Has P w K mg base "_law_of" s_law_of 2 ["deal", "some"] (spOf K) := by
  refine has_mk T.d_law_of sc_law_of (fun _ _ _ _ _ _ us hl => match us, hl with | [_, _], _ => rfl) (fun vs H Q E h => ?_) (fun f cdv A outer s H vs Q E hr h => ?_)
  · obtain ⟨_, _, _, _, _, rfl, _⟩ := h
    rfl
  · obtain ⟨B, d, l, a, xs, rfl, e, hD, hS, ad, al, x0, x1, k⟩ := h
    refine ⟨_, (pss_one (ps_ret (pe_ix ix_list (pv 1) (pe_callH (ok_law_any T) hr (by rfl) (pa_cons (pv 0) (pa_cons (pe_callB cl_len (by rfl) T.b_len (by decide +kernel) (pa_cons (pv 1) pa_nil)) pa_nil))) (fun _ _ => rfl)))), ?_⟩
    walk_at "go"
    refine ⟨B, d, l, _, rfl, e, hD, by omega, by omega, fun B1 H1 r n1 D1 r0 r1 => ?_⟩
    obtain ⟨i, rfl⟩ : ∃ i : Nat, r = (i : Int) := ⟨r.toNat, by omega⟩
    have hi : i < xs.length := by omega
    refine sx_ixL (n1.sq hS (by simp [ad, al])) (atI_nat (List.getElem?_eq_getElem hi)) ?_
    exact k B1 H1 i _ n1 D1 (List.getElem?_eq_getElem hi)
end
end C
namespace C
open PySem L2 G
section
variable {P : Program} {w : World} {K : PySem.W.Frag} {mg : Str → Option Value} {base : Heap}
/-- _law_deal: where draws come from -/
def spDeal (K : PySem.W.Frag) : Sp := fun vs H Q _ => ∃ (B : Hp) (a : Addr) (ns : List Int) (z : Int), vs = [.ref a, .int z] ∧ Ex B H ∧ SqL K H a (ns.map V.int) ∧ ns.length ≤ 63 ∧ 0 ≤ z ∧ z < 100000 ∧
  ∀ B' H' d l, Nx [] B H B' H' → Deal B' H' d l → Q (.ref d) H'
theorem pow64 : (10 : Int) ^ (64 : Int).toNat = 10 ^ 64 := rfl
theorem big_eq : (10 : Int) ^ 64 * 10 ^ 64 * 10 ^ 64 * 10 ^ 64 * 10 ^ 64 * 10 ^ 64 = big := by decide +kernel
def cell1 (v : V) : V := match v with
  | .int i => .int ((if i < 0 then -i else i) % big)
  | v => v
def cellOk (v : V) : Bool := match v with
  | .int i => decide (10 ^ 18 ≤ i)
  | _ => false
theorem ok_law_deal (T : Txt w K mg) : Has P w K mg base "_law_deal" s_law_deal 1 ["script", "salt"] (spDeal K) := by
  refine has_mk T.d_law_deal sc_law_deal (fun _ _ _ _ _ _ us hl => match us, hl with | [_, _], _ => rfl) (fun vs H Q E h => ?_) (fun f cdv A outer s H vs Q E hr h => ?_)
  · obtain ⟨_, _, _, _, rfl, _⟩ := h
    rfl
  · obtain ⟨B, a, ns, z, rfl, e, hS, hlen, z0, z1, k⟩ := h
    refine ⟨_, (pss_cons (ps_set (i := 2) sc_law_deal.nd rfl (.inr rfl) (pe_op op_mulW (pe_op op_mulW (pe_op op_mulW (pe_op op_mulW (pe_op op_mulW (pe_op op_pow pe_int pe_int) (pe_op op_pow pe_int pe_int)) (pe_op op_pow pe_int pe_int)) (pe_op op_pow pe_int pe_int)) (pe_op op_pow pe_int pe_int)) (pe_op op_pow pe_int pe_int)))
      (pss_cons (ps_setLc (i := 3) (own := [("cell", 4)]) (g := (gName 4)) rfl sc_law_deal.nd rfl rfl (sw_true rfl rfl rfl (by decide +kernel)) (pi_list (pe_slice sl_list (pv 0) po_none (po_some pe_int))) (blkOk_by (own := [("cell", 4)]) (N := ["script", "salt", "most", "cells", "cell", "mix"]) (sc := defScope s_law_deal) (by decide +kernel)) (fun _ _ _ _ _ => pg_name (i := 4) sc_law_deal.nd rfl (.inl rfl)) (fun _ _ _ _ _ => pts_nil) (fun _ _ _ _ _ => (pe_op op_mod (pe_callTy cl_int (by rfl) T.b_int (by decide +kernel) (pa_cons (pe_callB cl_abs (by rfl) T.b_abs (by decide +kernel) (pa_cons (pe_callTy cl_int (by rfl) T.b_int (by decide +kernel) (pa_cons (pv 4) pa_nil)) pa_nil)) pa_nil)) (pv 2))))
      (pss_cons (ps_set (i := 5) sc_law_deal.nd rfl (.inl rfl) (pe_op op_add pe_int (pe_op op_mulW pe_int (pv 1))))
      (pss_cons (ps_for PassesOwn.never rfl (pi_list (pv 3)) (pg_name (i := 4) sc_law_deal.nd rfl (.inl rfl))
      (pss_one (ps_set (i := 5) sc_law_deal.nd rfl (.inl rfl) (pe_op op_mod (pe_callTy cl_int (by rfl) T.b_int (by decide +kernel) (pa_cons (pe_op op_add (pe_op op_add (pe_op op_mulW (pv 5) pe_int) (pe_op op_mod (pe_callTy cl_int (by rfl) T.b_int (by decide +kernel) (pa_cons (pv 4) pa_nil)) pe_int)) pe_int) pa_nil)) pe_int))))
      (pss_one (ps_ret (pe_lst (pa_cons (pe_revL (pe_lc (own := [("cell", 4)]) (g := (gName 4)) rfl sc_law_deal.nd (pi_list (pv 3)) (blkOk_by (own := [("cell", 4)]) (N := ["script", "salt", "most", "cells", "cell", "mix"]) (sc := defScope s_law_deal) (by decide +kernel)) (fun _ _ _ _ _ => pg_name (i := 4) sc_law_deal.nd rfl (.inl rfl)) (fun _ _ _ _ _ => (pts_one (pt_cmpR op_ge (pv 4) (pe_op op_pow pe_int pe_int) (nomark _)))) (fun _ _ _ _ _ => (pv 4)))) (pa_cons (pv 5) pa_nil))))))))), ?_⟩
    walk_at "go"
    refine sx_pow (by decide) (by decide) (by decide) ?_
    walk_at "sx"
    refine sx_pow (by decide) (by decide) (by decide) ?_
    refine sx_mulW (a := 213) (b := 213) (by decide +kernel) (by decide +kernel) (by decide) (by decide) (by decide) ?_
    walk_at "sx"
    refine sx_pow (by decide) (by decide) (by decide) ?_
    refine sx_mulW (a := 426) (b := 213) (by decide +kernel) (by decide +kernel) (by decide) (by decide) (by decide) ?_
    walk_at "sx"
    refine sx_pow (by decide) (by decide) (by decide) ?_
    refine sx_mulW (a := 639) (b := 213) (by decide +kernel) (by decide +kernel) (by decide) (by decide) (by decide) ?_
    walk_at "sx"
    refine sx_pow (by decide) (by decide) (by decide) ?_
    refine sx_mulW (a := 852) (b := 213) (by decide +kernel) (by decide +kernel) (by decide) (by decide) (by decide) ?_
    walk_at "sx"
    refine sx_pow (by decide) (by decide) (by decide) ?_
    refine sx_mulW (a := 1065) (b := 213) (by decide +kernel) (by decide +kernel) (by decide) (by decide) (by decide) ?_
    rw [pow64, big_eq]
    walk_at "sx"
    refine sx_slL e hS fun p1 H1 hp1 n1 m1 => ?_
    rw [show (63 : Int) = ((63 : Nat) : Int) from rfl, cut_to, List.take_of_length_le (by simpa using hlen)] at m1
    refine sx_lcPure (fun _ => true) cell1 n1.h m1.sq (by simp; omega) (fun x => by simp [wipe]) (fun x _ H2 R e2 h => h) (fun x hx _ H2 R e2 h => ?_) fun p2 H2 hp2 n2 m2 => ?_
    · obtain ⟨i, _, rfl⟩ := List.mem_map.mp hx
      walk_at "st"
      walk_at "sx"
      refine sx_mod (by decide +kernel) ?_
      exact h
    rw [List.filter_eq_self.mpr (fun _ _ => rfl), List.map_map] at m2
    walk_at "sx"
    walk_at "st"
    obtain ⟨cs, hcs⟩ : ∃ cs : List Int, cs = ns.map (fun i => (if i < 0 then -i else i) % big) := ⟨_, rfl⟩
    have mc : ns.map (cell1 ∘ V.int) = cs.map V.int := by rw [hcs, List.map_map]; rfl
    have hc : ∀ c ∈ cs, 0 ≤ c ∧ c < big := fun c hc => by
      rw [hcs] at hc
      obtain ⟨i, _, rfl⟩ := List.mem_map.mp hc
      exact ⟨Int.emod_nonneg _ (by decide +kernel), Int.emod_lt_of_pos _ (by decide +kernel)⟩
    have hcl : cs.length ≤ 63 := by rw [hcs, List.length_map]; exact hlen
    rw [mc] at m2
    refine sx_forL_by m2.sq (fun i σ H' => H' = H2 ∧ ∃ mix y, 0 ≤ mix ∧ mix < 2147483647 ∧ σ = [some (.ref a), some (.int z), some (.int big), some (.ref p2), y, some (.int mix)]) ⟨rfl, _, _, by omega, by omega, rfl⟩ (fun i σ H' _ p => by rw [p.1]; exact m2.sq) (fun i x σ H' hx p => ?_) (fun σ H' p => ?_)
    · obtain ⟨rfl, mix, y, x0, x1, rfl⟩ := p
      obtain ⟨c, hc1, rfl⟩ := List.mem_map.mp (List.mem_of_getElem? hx)
      have := hc c hc1
      walk_at "sx"
      exact ⟨rfl, _, _, Int.emod_nonneg _ (by omega), Int.emod_lt_of_pos _ (by omega), rfl⟩
    · obtain ⟨rfl, mix, y, x0, x1, rfl⟩ := p
      walk_at "sx"
      refine sx_lcPure cellOk id n2.h m2.sq (by simp; omega) (fun x => by simp [wipe]) (fun x hx H3 R e3 h => ?_) (fun x hx _ H3 R e3 h => ?_) fun p3 H3 hp3 n3 m3 => ?_
      · obtain ⟨i, _, rfl⟩ := List.mem_map.mp hx
        walk_at "st"
        walk_at "sx"
        refine sx_pow (by decide) (by decide) (by decide) ?_
        walk_at "sx"
        exact h
      · walk_at "st"
        walk_at "sx"
        exact h
      rw [List.map_id] at m3
      refine sx_revL2 n3.h m3.sq fun p4 H4 hp4 n4 m4 => ?_
      walk_at "sx"
      refine sx_newM n4.h (by simp) fun p5 H5 hp5 n5 m5 => ?_
      obtain ⟨es, hes, h1, h2⟩ : ∃ es : List Int, ((cs.map V.int).filter cellOk).reverse = es.map V.int ∧ (∀ c ∈ es, c ∈ cs) ∧ es.length ≤ cs.length := by
        refine ⟨(cs.filter fun c => decide (10 ^ 18 ≤ c)).reverse, ?_, fun c hc => ?_, ?_⟩
        · rw [List.filter_map, List.map_reverse]
          rfl
        · rw [List.mem_reverse, List.mem_filter] at hc
          exact hc.1
        · rw [List.length_reverse]
          exact List.length_filter_le _ _
      rw [hes] at m4
      exact k B H5 p5 p4 ((((n1.tr n2).tr n3).tr n4).tr n5) ⟨es, mix, m5, m4.up n5, fun c h => hc c (h1 c h), by omega, x0, x1⟩
end
end C
namespace C
open PySem L2 G
section
variable {P : Program} {w : World} {K : PySem.W.Frag} {mg : Str → Option Value} {base : Heap}
/-! ### _law_same that asks itself, of like things -/
theorem pe_never {X : Cx} {e : Expr} : PE X e (fun _ _ _ => False) := ⟨fun _ _ _ _ _ _ h => h.elim⟩
def okN : Nat → PyData → Bool
  | 0, .tuple _ => false
  | n + 1, .tuple ds => decide (ds.length ≤ 1000) && ds.all (okN n)
  | _, .list _ => false
  | _, .dict _ => false
  | _, _ => true
theorem okN_flat {d : PyData} (h : ∀ ds, d ≠ .tuple ds) : ∀ n m, okN n d = okN m d := by
  intro n m
  cases d with
  | tuple ds => exact absurd rfl (h ds)
  | _ => cases n <;> cases m <;> rfl
def spSameN (K : PySem.W.Frag) (n : Nat) : Sp := fun vs H Q _ => ∃ (B : Hp) (x y : V) (d : PyData), vs = [x, y] ∧ Ex B H ∧ Dp K B x d ∧ Dp K B y d ∧ okN n d = true ∧ ∀ B' H', Nx [] B H B' H' → Q (.bl true) H'
theorem ok_same0 (T : Txt w K mg) : Has P w K mg base "_law_same" s_law_same 1 ["told", "due"] (spSameN K 0) := by
  refine has_mk T.d_law_same sc_law_same (fun _ _ _ _ _ _ us hl => match us, hl with | [_, _], _ => rfl) (fun vs H Q E h => ?_) (fun f cdv A outer s H vs Q E hr h => ?_)
  · obtain ⟨_, _, _, _, rfl, _⟩ := h
    rfl
  · obtain ⟨B, x, y, d, rfl, e, hx, hy, hf, k⟩ := h
    refine ⟨_, (pss_cons (ps_if (pt_val (pe_callB call_isi (by rfl) T.b_isinstance (by decide +kernel) (pa_cons (pv 1) (pa_cons (pe_bT (n := "tuple") (by rfl) T.b_tuple (by decide +kernel)) pa_nil))))
      (pss_cons (ps_if (PW.pt (pw_or (pt_not (pt_val (pe_callB call_isi (by rfl) T.b_isinstance (by decide +kernel) (pa_cons (pv 0) (pa_cons (pe_bT (n := "tuple") (by rfl) T.b_tuple (by decide +kernel)) pa_nil))))) (pw_or1 (pt_cmpR op_ne (pe_callB cl_len (by rfl) T.b_len (by decide +kernel) (pa_cons (pv 0) pa_nil)) (pe_callB cl_len (by rfl) T.b_len (by decide +kernel) (pa_cons (pv 1) pa_nil)) (nomark _)))))
      (pss_one (ps_ret pe_bl))
      pss_nil)
      (pss_one (ps_ret (pe_cmpR op_eq (pe_callB cl_len (by rfl) T.b_len (by decide +kernel) (pa_cons (pe_lc (own := [("at", 2)]) (g := (gName 2)) rfl sc_law_same.nd (pi_range1 (by rfl) T.b_range (pa_cons (pe_callB cl_len (by rfl) T.b_len (by decide +kernel) (pa_cons (pv 1) pa_nil)) pa_nil)) (blkOk_by (own := [("at", 2)]) (N := ["told", "due", "at"]) (sc := defScope s_law_same) (by decide +kernel)) (fun _ _ _ _ _ => pg_name (i := 2) sc_law_same.nd rfl (.inl rfl)) (fun _ _ _ _ _ => (pts_one (pt_not (pt_val pe_never)))) (fun _ _ _ _ _ => (pv 2))) pa_nil)) pe_int (nomark _)))))
      pss_nil)
      (pss_cons (ps_if (pt_cmpR op_isN1 (pv 1) pe_non (nomark _))
      (pss_one (ps_ret (pe_cmpR op_isN1 (pv 0) pe_non (nomark _))))
      pss_nil)
      (pss_cons (ps_if (PW.pt (pw_or (pt_cmpR op_isBV (pv 1) pe_bl (nomark _)) (pw_or1 (pt_cmpR op_isBV (pv 1) pe_bl (nomark _)))))
      (pss_one (ps_ret (pe_ifExp (pt_val (pv 1)) (pe_cmpR op_isBV (pv 0) pe_bl (nomark _)) (pe_cmpR op_isBV (pv 0) pe_bl (nomark _)))))
      pss_nil)
      (pss_cons (ps_if (pt_val (pe_callB call_isi (by rfl) T.b_isinstance (by decide +kernel) (pa_cons (pv 1) (pa_cons (pe_bT (n := "str") (by rfl) T.b_str (by decide +kernel)) pa_nil))))
      (pss_one (ps_ret (pe_and (pe_callB call_isi (by rfl) T.b_isinstance (by decide +kernel) (pa_cons (pv 0) (pa_cons (pe_bT (n := "str") (by rfl) T.b_str (by decide +kernel)) pa_nil))) (pe_one (pe_cmpR op_eq (pv 0) (pv 1) (nomark _))))))
      pss_nil)
      (pss_one (ps_ret (pe_and (pe_callB call_isi (by rfl) T.b_isinstance (by decide +kernel) (pa_cons (pv 0) (pa_cons (pe_bT (n := "int") (by rfl) T.b_int (by decide +kernel)) pa_nil))) (pe_and (pe_not (pe_callB call_isi (by rfl) T.b_isinstance (by decide +kernel) (pa_cons (pv 0) (pa_cons (pe_bT (n := "bool") (by rfl) T.b_bool (by decide +kernel)) pa_nil)))) (pe_one (pe_cmpR op_eq (pv 0) (pv 1) (nomark _))))))))))), ?_⟩
    walk_at "go"
    cases d with
    | none =>
      cases Dp.none_v hx
      cases Dp.none_v hy
      refine ifF rfl ?_
      walk_at "sx"
      refine ifT (by decide) ?_
      walk_at "sx"
      exact k B H (Nx.refl e)
    | bool b =>
      cases Dp.bool_v hx
      cases Dp.bool_v hy
      refine ifF rfl ?_
      walk_at "sx"
      refine ifF (by simp) ?_
      walk_at "sx"
      cases b with
      | true =>
        refine ifT (by decide) ?_
        refine ifT (by decide) ?_
        walk_at "sx"
        refine ifT (by decide) ?_
        walk_at "sx"
        exact k B H (Nx.refl e)
      | false =>
        refine ifF (by decide) ?_
        walk_at "sx"
        refine ifT (by decide) ?_
        walk_at "sx"
        refine ifF (by decide) ?_
        walk_at "sx"
        exact k B H (Nx.refl e)
    | int i =>
      have ex := Dp.int_v hx
      have ey := Dp.int_v hy
      subst ex ey
      refine ifF rfl ?_
      walk_at "sx"
      refine ifF (by simp) ?_
      walk_at "sx"
      refine ifF (by simp) ?_
      walk_at "sx"
      refine ifF (by simp) ?_
      walk_at "sx"
      refine ifF rfl ?_
      walk_at "sx"
      refine ifT rfl ?_
      walk_at "sx"
      refine ifT rfl ?_
      walk_at "sx"
      rw [int_eqT rfl]
      exact k B H (Nx.refl e)
    | str z =>
      have ex := Dp.str_v hx
      have ey := Dp.str_v hy
      subst ex ey
      refine ifF rfl ?_
      walk_at "sx"
      refine ifF (by simp) ?_
      walk_at "sx"
      refine ifF (by simp) ?_
      walk_at "sx"
      refine ifF (by simp) ?_
      walk_at "sx"
      refine ifT rfl ?_
      walk_at "sx"
      refine ifT rfl ?_
      walk_at "sx"
      rw [str_eqT rfl]
      exact k B H (Nx.refl e)
    | list ds => simp [okN] at hf
    | tuple ds => simp [okN] at hf
    | dict ds => simp [okN] at hf
theorem ok_sameS (T : Txt w K mg) (n : Nat) (ih : Has P w K mg base "_law_same" s_law_same (n + 1) ["told", "due"] (spSameN K n)) : Has P w K mg base "_law_same" s_law_same (n + 2) ["told", "due"] (spSameN K (n + 1)) := by
  refine has_mk T.d_law_same sc_law_same (fun _ _ _ _ _ _ us hl => match us, hl with | [_, _], _ => rfl) (fun vs H Q E h => ?_) (fun f cdv A outer s H vs Q E hr h => ?_)
  · obtain ⟨_, _, _, _, rfl, _⟩ := h
    rfl
  · obtain ⟨B, x, y, d, rfl, e, hx, hy, hf, k⟩ := h
    refine ⟨_, (pss_cons (ps_if (pt_val (pe_callB call_isi (by rfl) T.b_isinstance (by decide +kernel) (pa_cons (pv 1) (pa_cons (pe_bT (n := "tuple") (by rfl) T.b_tuple (by decide +kernel)) pa_nil))))
      (pss_cons (ps_if (PW.pt (pw_or (pt_not (pt_val (pe_callB call_isi (by rfl) T.b_isinstance (by decide +kernel) (pa_cons (pv 0) (pa_cons (pe_bT (n := "tuple") (by rfl) T.b_tuple (by decide +kernel)) pa_nil))))) (pw_or1 (pt_cmpR op_ne (pe_callB cl_len (by rfl) T.b_len (by decide +kernel) (pa_cons (pv 0) pa_nil)) (pe_callB cl_len (by rfl) T.b_len (by decide +kernel) (pa_cons (pv 1) pa_nil)) (nomark _)))))
      (pss_one (ps_ret pe_bl))
      pss_nil)
      (pss_one (ps_ret (pe_cmpR op_eq (pe_callB cl_len (by rfl) T.b_len (by decide +kernel) (pa_cons (pe_lc (own := [("at", 2)]) (g := (gName 2)) rfl sc_law_same.nd (pi_range1 (by rfl) T.b_range (pa_cons (pe_callB cl_len (by rfl) T.b_len (by decide +kernel) (pa_cons (pv 1) pa_nil)) pa_nil)) (blkOk_by (own := [("at", 2)]) (N := ["told", "due", "at"]) (sc := defScope s_law_same) (by decide +kernel)) (fun _ _ _ _ _ => pg_name (i := 2) sc_law_same.nd rfl (.inl rfl)) (fun _ _ _ _ _ => (pts_one (pt_not (pt_val (pe_callH ih hr (by rfl) (pa_cons (pe_ix (G.k_ixT (K := K) rfl) (pv 0) (pv 2) (fun _ _ => rfl)) (pa_cons (pe_ix (G.k_ixT (K := K) rfl) (pv 1) (pv 2) (fun _ _ => rfl)) pa_nil)) (Nat.le_refl _)))))) (fun _ _ _ _ _ => (pv 2))) pa_nil)) pe_int (nomark _)))))
      pss_nil)
      (pss_cons (ps_if (pt_cmpR op_isN1 (pv 1) pe_non (nomark _))
      (pss_one (ps_ret (pe_cmpR op_isN1 (pv 0) pe_non (nomark _))))
      pss_nil)
      (pss_cons (ps_if (PW.pt (pw_or (pt_cmpR op_isBV (pv 1) pe_bl (nomark _)) (pw_or1 (pt_cmpR op_isBV (pv 1) pe_bl (nomark _)))))
      (pss_one (ps_ret (pe_ifExp (pt_val (pv 1)) (pe_cmpR op_isBV (pv 0) pe_bl (nomark _)) (pe_cmpR op_isBV (pv 0) pe_bl (nomark _)))))
      pss_nil)
      (pss_cons (ps_if (pt_val (pe_callB call_isi (by rfl) T.b_isinstance (by decide +kernel) (pa_cons (pv 1) (pa_cons (pe_bT (n := "str") (by rfl) T.b_str (by decide +kernel)) pa_nil))))
      (pss_one (ps_ret (pe_and (pe_callB call_isi (by rfl) T.b_isinstance (by decide +kernel) (pa_cons (pv 0) (pa_cons (pe_bT (n := "str") (by rfl) T.b_str (by decide +kernel)) pa_nil))) (pe_one (pe_cmpR op_eq (pv 0) (pv 1) (nomark _))))))
      pss_nil)
      (pss_one (ps_ret (pe_and (pe_callB call_isi (by rfl) T.b_isinstance (by decide +kernel) (pa_cons (pv 0) (pa_cons (pe_bT (n := "int") (by rfl) T.b_int (by decide +kernel)) pa_nil))) (pe_and (pe_not (pe_callB call_isi (by rfl) T.b_isinstance (by decide +kernel) (pa_cons (pv 0) (pa_cons (pe_bT (n := "bool") (by rfl) T.b_bool (by decide +kernel)) pa_nil)))) (pe_one (pe_cmpR op_eq (pv 0) (pv 1) (nomark _))))))))))), ?_⟩
    walk_at "go"
    cases d with
    | none =>
      cases Dp.none_v hx
      cases Dp.none_v hy
      refine ifF rfl ?_
      walk_at "sx"
      refine ifT (by decide) ?_
      walk_at "sx"
      exact k B H (Nx.refl e)
    | bool b =>
      cases Dp.bool_v hx
      cases Dp.bool_v hy
      refine ifF rfl ?_
      walk_at "sx"
      refine ifF (by simp) ?_
      walk_at "sx"
      cases b with
      | true =>
        refine ifT (by decide) ?_
        refine ifT (by decide) ?_
        walk_at "sx"
        refine ifT (by decide) ?_
        walk_at "sx"
        exact k B H (Nx.refl e)
      | false =>
        refine ifF (by decide) ?_
        walk_at "sx"
        refine ifT (by decide) ?_
        walk_at "sx"
        refine ifF (by decide) ?_
        walk_at "sx"
        exact k B H (Nx.refl e)
    | int i =>
      have ex := Dp.int_v hx
      have ey := Dp.int_v hy
      subst ex ey
      refine ifF rfl ?_
      walk_at "sx"
      refine ifF (by simp) ?_
      walk_at "sx"
      refine ifF (by simp) ?_
      walk_at "sx"
      refine ifF (by simp) ?_
      walk_at "sx"
      refine ifF rfl ?_
      walk_at "sx"
      refine ifT rfl ?_
      walk_at "sx"
      refine ifT rfl ?_
      walk_at "sx"
      rw [int_eqT rfl]
      exact k B H (Nx.refl e)
    | str z =>
      have ex := Dp.str_v hx
      have ey := Dp.str_v hy
      subst ex ey
      refine ifF rfl ?_
      walk_at "sx"
      refine ifF (by simp) ?_
      walk_at "sx"
      refine ifF (by simp) ?_
      walk_at "sx"
      refine ifF (by simp) ?_
      walk_at "sx"
      refine ifT rfl ?_
      walk_at "sx"
      refine ifT rfl ?_
      walk_at "sx"
      rw [str_eqT rfl]
      exact k B H (Nx.refl e)
    | list ds => simp [okN] at hf
    | dict ds => simp [okN] at hf
    | tuple ds =>
      rw [okN, Bool.and_eq_true, List.all_eq_true] at hf
      obtain ⟨hl, hall⟩ := hf
      have hl : ds.length ≤ 1000 := by simpa using hl
      refine ifT rfl ?_
      walk_at "sx"
      refine ifF rfl ?_
      walk_at "sx"
      refine sx_lenTd hx e ?_
      walk_at "sx"
      refine sx_lenTd hy e ?_
      walk_at "sx"
      refine ifF (by simp) ?_
      walk_at "sx"
      refine sx_lenTd hy e ?_
      walk_at "sx"
      refine sx_lcR_by (by omega) (fun L i H' => ∃ B', Nx [] B H B' H' ∧ H L = none ∧ Mu B' H' L []) (fun L hL => ⟨B, Nx.own e hL, hL, Mu.new e hL⟩) (fun L i H1 hi p => ?_) (fun L H1 p => ?_)
      · obtain ⟨B1, n1, hL, m1⟩ := p
        walk_at "st"
        refine G.sx_gname ?_
        walk_at "st"
        refine ⟨trivial, ?_⟩
        walk_at "sx"
        have hg := List.getElem?_eq_getElem hi
        refine sx_ixTd (Dp.up n1.b hx) n1.h (atI_nat hg) fun v1 hv1 => ?_
        walk_at "sx"
        refine sx_ixTd (Dp.up n1.b hy) n1.h (atI_nat hg) fun v2 hv2 => ?_
        walk_at "sx"
        refine ⟨B1, v1, v2, _, rfl, n1.h, hv1, hv2, hall _ (List.getElem_mem hi), fun B2 H2 n2 => ?_⟩
        walk_at "sx"
        refine ifF rfl ?_
        exact ⟨B2, n1.tr n2, hL, m1.up n2⟩
      · obtain ⟨B1, n1, hL, m1⟩ := p
        walk_at "sx"
        rw [int_eqT (by simp)]
        exact k B1 H1 n1
theorem ok_sameN (T : Txt w K mg) : ∀ n, Has P w K mg base "_law_same" s_law_same (n + 1) ["told", "due"] (spSameN K n)
  | 0 => ok_same0 T
  | n + 1 => ok_sameS T n (ok_sameN T n)
theorem ok_law_same (T : Txt w K mg) : Has P w K mg base "_law_same" s_law_same 9 ["told", "due"] (spSameN K 8) := ok_sameN T 8
end
end C
namespace C
open PySem L2 G
section
variable {P : Program} {w : World} {K : PySem.W.Frag} {mg : Str → Option Value} {base : Heap}
/-- what each pair of answers is -/
structure PairOk (K : PySem.W.Frag) (B : Hp) (v : V) : Prop where
  ex : ∃ (p : Addr) (a b : V) (d : PyData), v = .ref p ∧ SqT K B p [a, b] ∧ Dp K B a d ∧ Dp K B b d ∧ okN 8 d = true
theorem PairOk.up {B B' : Hp} {v : V} (h : PairOk K B v) (e : Ex B B') : PairOk K B' v := by
  obtain ⟨p, a, b, d, rfl, h1, h2, h3, h4⟩ := h
  exact ⟨p, a, b, d, rfl, e.t h1, Dp.up e h2, Dp.up e h3, h4⟩
/-- _law_all: asked of like pairs -/
def spAll (K : PySem.W.Frag) : Sp := fun vs H Q _ => ∃ (B : Hp) (a : Addr) (xs : List V), vs = [.ref a] ∧ Ex B H ∧ SqL K H a xs ∧ xs.length ≤ 50000 ∧ (∀ x ∈ xs, PairOk K B x) ∧
  ∀ H', Q (.bl true) H'
theorem ok_law_all (T : Txt w K mg) : Has P w K mg base "_law_all" s_law_all 10 ["pairs"] (spAll K) := by
  refine has_mk T.d_law_all sc_law_all (fun _ _ _ _ _ _ us hl => match us, hl with | [_], _ => rfl) (fun vs H Q E h => ?_) (fun f cdv A outer s H vs Q E hr h => ?_)
  · obtain ⟨_, _, _, rfl, _⟩ := h
    rfl
  · obtain ⟨B, a, xs, rfl, e, hS, hz, hp, k⟩ := h
    refine ⟨_, (pss_one (ps_ret (pe_cmpR op_eq (pe_callB cl_len (by rfl) T.b_len (by decide +kernel) (pa_cons (pe_lc (own := [("told", 1), ("due", 2)]) (g := (gTup K 2 (gCons (gName 1) (gCons (gName 2) gNil)))) rfl sc_law_all.nd (pi_list (pv 0)) (blkOk_by (own := [("told", 1), ("due", 2)]) (N := ["pairs", "told", "due"]) (sc := defScope s_law_all) (by decide +kernel)) (fun _ _ _ _ _ => (pg_tup (by rfl) (pgs_cons (pg_name (i := 1) sc_law_all.nd rfl (.inl rfl)) (pgs_cons (pg_name (i := 2) sc_law_all.nd rfl (.inl rfl)) pgs_nil)))) (fun _ _ _ _ _ => (pts_one (pt_not (pt_val (pe_callH (ok_law_same T) hr (by rfl) (pa_cons (pv 1) (pa_cons (pv 2) pa_nil))))))) (fun _ _ _ _ _ => (pv 1))) pa_nil)) pe_int (nomark _)))), ?_⟩
    walk_at "go"
    walk_at "st"
    refine sx_lcL_by hS (fun L i H' => ∃ B', Nx [] B H B' H' ∧ H L = none ∧ Mu B' H' L []) (fun L hL => ⟨B, Nx.own e hL, hL, Mu.new e hL⟩) (fun L i H' _ p => by obtain ⟨B', n, _⟩ := p; exact n.sq hS (by simp)) (fun L i x H' hx p => ?_) (fun L H' p => ?_)
    · obtain ⟨B', n, hL, m⟩ := p
      obtain ⟨q, v1, v2, d, rfl, h1, h2, h3, h4⟩ := (hp x (List.mem_of_getElem? hx)).up n.b
      refine sx_gtup2 (d1 := d) (d2 := d) (.tup h1 (.cons h2 (.cons h3 .nil))) n.h fun w1 w2 e1 e2 => ?_
      walk_at "sx"
      walk_at "st"
      refine ⟨trivial, ?_⟩
      walk_at "sx"
      refine ⟨B', w1, w2, d, rfl, n.h, e1, e2, h4, fun B2 H2 n2 => ?_⟩
      walk_at "sx"
      refine ifF rfl ?_
      exact ⟨B2, n.tr n2, hL, m.up n2⟩
    · obtain ⟨B', n, hL, m⟩ := p
      walk_at "sx"
      exact k H'
end
end C
namespace C
open PySem L2 G
section
variable {P : Program} {w : World} {K : PySem.W.Frag} {mg : Str → Option Value} {base : Heap}
/-! ### _law_mixed: in a drawn order -/
theorem er_perm {α : Type} : ∀ {xs : List α} {i : Nat} {x : α}, xs[i]? = some x → (x :: xs.eraseIdx i).Perm xs
  | [], _, _, h => by simp at h
  | a :: r, 0, x, h => by
    have e : a = x := Option.some.inj h
    subst e
    exact .refl _
  | a :: r, i + 1, x, h => by
    have h : r[i]? = some x := h
    exact (List.Perm.swap a x _).trans ((er_perm h).cons a)
def spMixed (K : PySem.W.Frag) : Sp := fun vs H Q _ => ∃ (B : Hp) (d l a : Addr) (xs : List V), vs = [.ref d, .ref a] ∧ Ex B H ∧ Deal B H d l ∧ SqL K H a xs ∧ a ≠ d ∧ a ≠ l ∧ xs.length ≤ 1000 ∧
  ∀ B' H' p ys, Nx [d, l] B H B' H' → Deal B' H' d l → H p = none → Mu B' H' p ys → ys.Perm xs → Q (.ref p) H'
theorem ok_law_mixed (T : Txt w K mg) : Has P w K mg base "_law_mixed" s_law_mixed 2 ["deal", "some"] (spMixed K) := by
  refine has_mk T.d_law_mixed sc_law_mixed (fun _ _ _ _ _ _ us hl => match us, hl with | [_, _], _ => rfl) (fun vs H Q E h => ?_) (fun f cdv A outer s H vs Q E hr h => ?_)
  · obtain ⟨_, _, _, _, _, rfl, _⟩ := h
    rfl
  · obtain ⟨B, d, l, a, xs, rfl, e, hD, hS, ad, al, hz, k⟩ := h
    refine ⟨_, (pss_cons (ps_par (i := 2) (j := 3) (by rfl) sc_law_mixed.nd rfl rfl (by decide) rfl rfl (pa_cons (pe_callTy cl_list (by rfl) T.b_list (by decide +kernel) (pa_cons (pv 1) pa_nil)) (pa_cons (pe_lst pa_nil) pa_nil)) (by rfl))
      (pss_cons (ps_for PassesOwn.never rfl (pi_range1 (by rfl) T.b_range (pa_cons (pe_callB cl_len (by rfl) T.b_len (by decide +kernel) (pa_cons (pv 1) pa_nil)) pa_nil)) (pg_name (i := 4) sc_law_mixed.nd rfl (.inl rfl))
      (pss_one (ps_expr (pe_bm PySem.F.plainAttrs_list PySem.F.slot_list_append PySem.F.type_list_append mt_append (pv 3) (pa_cons (pe_bm PySem.F.plainAttrs_list PySem.F.slot_list_pop PySem.F.type_list_pop mt_popAt (pv 2) (pa_cons (pe_callH (ok_law_any T) hr (by rfl) (pa_cons (pv 0) (pa_cons (pe_callB cl_len (by rfl) T.b_len (by decide +kernel) (pa_cons (pv 2) pa_nil)) pa_nil))) pa_nil)) pa_nil)))))
      (pss_one (ps_ret (pv 3))))), ?_⟩
    walk_at "go"
    refine sx_listOf e (.inl hS) fun L H1 hL n1 m1 => ?_
    have off := hD.off hL
    have D1 := hD.up n1
    walk_at "sx"
    refine sx_newM n1.h (by simp) fun L2 H2 hL2 n2 m2 => ?_
    have off2 := D1.off hL2
    have D2 := D1.up n2
    have m12 := m1.up n2
    have hLL : L ≠ L2 := m1.ne' hL2
    have hL20 : H L2 = none := by
      cases z : H L2 with
      | none => rfl
      | some o =>
        have := n1.k _ _ z (by simp)
        rw [hL2] at this
        cases this
    have hL0 : H L = none := hL
    walk_at "sx"
    walk_at "st"
    have S2 := (n1.tr n2).sq hS (by simp)
    walk_at "sx"
    refine sx_forR_by (by omega) (fun i σ H' => ∃ (B' : Hp) (us ws : List V) (y4 : Option V), σ = [some (.ref d), some (.ref a), some (.ref L), some (.ref L2), y4] ∧ Nx [d, l] B H B' H' ∧ Deal B' H' d l ∧ Mu B' H' L us ∧ Mu B' H' L2 ws ∧ (ws ++ us).Perm xs ∧ ws.length = i) ⟨B, xs, [], _, rfl, (n1.tr n2).wk (by simp), D2, m12, m2, .refl _, rfl⟩ (fun i σ H3 hi p => ?_) (fun σ H3 p => ?_)
    · obtain ⟨B3, us, ws, y4, rfl, n3, D3, m3, m3', pm, lw⟩ := p
      have lp := pm.length_eq
      rw [List.length_append] at lp
      refine sx_gname ?_
      walk_at "st"
      walk_at "sx"
      refine ⟨B3, d, l, _, rfl, n3.h, D3, by omega, by omega, fun B4 H4 r n4 D4 r0 r1 => ?_⟩
      have n14 := n3.trans n4 fun b hb _ => D3.in b hb
      have m4 := m3.up n4 (by simp [off.1, off.2])
      have m4' := m3'.up n4 (by simp [off2.1, off2.2])
      obtain ⟨j, rfl⟩ : ∃ j : Nat, r = (j : Int) := ⟨r.toNat, by omega⟩
      have hj : j < us.length := by omega
      have hq := List.getElem?_eq_getElem hj
      walk_at "sx"
      refine sx_popAt m4 n4.h hq (by omega) fun H5 n5 m5 => ?_
      have m5' := m4'.up n5 (by simp [hLL.symm])
      walk_at "sx"
      refine sx_append m5' n5.h (by omega) fun H6 n6 m6 => ?_
      have D5 := D4.up n5 (by simp [off.1.symm, off.2.symm])
      refine ⟨B4, us.eraseIdx j, ws ++ [us[j]], _, rfl, Deal.go (Deal.go n14 D4 n5 (by simp [hL0])) D5 n6 (by simp [hL20]), D5.up n6 (by simp [off2.1.symm, off2.2.symm]), m5.up n6 (by simp [hLL]), m6, ?_, by simp [lw]⟩
      rw [List.append_assoc]
      exact ((er_perm hq).append_left ws).trans pm
    · obtain ⟨B3, us, ws, y4, rfl, n3, D3, m3, m3', pm, lw⟩ := p
      have lp := pm.length_eq
      rw [List.length_append] at lp
      have h0 : us = [] := List.length_eq_zero_iff.mp (by omega)
      subst h0
      walk_at "sx"
      rw [List.append_nil] at pm
      exact k B3 H3 L2 ws n3 D3 hL20 m3' pm
end
end C
namespace C
open PySem L2 G
section
variable {P : Program} {w : World} {K : PySem.W.Frag} {mg : Str → Option Value} {base : Heap}
/-- the law itself -/
def spLaw (K : PySem.W.Frag) : Sp := fun vs H Q _ => ∃ (a : Addr) (ns : List Int), vs = [.ref a] ∧ SqL K H a (ns.map V.int) ∧ ns.length ≤ 63 ∧ ∀ H', Q (.bl true) H'
end
end C
namespace C
open PySem L2 G
section
variable {P : Program} {w : World} {K : PySem.W.Frag} {mg : Str → Option Value} {base : Heap}
end
end C
namespace G
open PySem L2
theorem Deal.frzO {B H : Hp} {d l p : Addr} {xs : List V} (D : Deal B H d l) (h : p ≠ d ∧ p ≠ l) : Deal (upd B p (.lst xs)) H d l := by
  obtain ⟨cs, mix, m1, m2, r⟩ := D
  exact ⟨cs, mix, m1.frzO h.1.symm, m2.frzO h.2.symm, r⟩
end G
namespace C
open PySem L2 G
section
end
end C
namespace C
open PySem L2 G
section
variable {P : Program} {w : World} {K : PySem.W.Frag} {mg : Str → Option Value} {base : Heap}
/-! ### runs with marks: what they come to -/
structure RS where
  way : List Int
  marks : List Int
  plain : List Int
def iV (l : List Int) : List V := l.map V.int
def iD (l : List Int) : List PyData := l.map PyData.int
def lastI (l : List Int) : Int := l.getLast?.getD 0
def cell (tbl : List (List Int)) (s e : Int) : Int := (tbl.getD s.toNat []).getD e.toNat (-1)
def cutM (n : Nat) (ms : List Int) : List Int := ms.filter fun m => decide (m < (n : Int))
def stp (tbl : List (List Int)) (w : Nat) (s : RS) (e : Int) : Option RS :=
  if e = -2 then some ⟨s.way, cutM s.way.length (s.marks ++ [(s.way.length : Int) - 1]), s.plain⟩
  else if e = -3 then match s.marks.getLast? with
    | none => none
    | some g => some ⟨s.way.take (g.toNat + 1), cutM (s.way.take (g.toNat + 1)).length s.marks.dropLast, s.plain ++ List.replicate (s.way.length - 1 - g.toNat) (-1)⟩
  else if e = -1 then (if s.way.length = 1 then none else some ⟨s.way.dropLast, cutM (s.way.length - 1) s.marks, s.plain ++ [-1]⟩)
  else if 0 ≤ e ∧ e < (w : Int) ∧ 0 ≤ cell tbl (lastI s.way) e then some ⟨s.way ++ [cell tbl (lastI s.way) e], cutM (s.way.length + 1) s.marks, s.plain ++ [e]⟩
  else none
def goes (tbl : List (List Int)) (w : Nat) : RS → List Int → List Int → Option (RS × List Int)
  | s, f, [] => some (s, f)
  | s, f, e :: es => match stp tbl w s e with
    | none => none
    | some s' => goes tbl w s' (f ++ [lastI s'.way]) es
/-- a table of n states, w commands -/
structure TblOk (tbl : List (List Int)) (w n : Nat) : Prop where
  len : tbl.length = n
  row : ∀ r ∈ tbl, r.length = w ∧ ∀ x ∈ r, -1 ≤ x ∧ x < (n : Int)
structure RSOk (n : Nat) (s : RS) : Prop where
  ne : s.way ≠ []
  st : ∀ x ∈ s.way, 0 ≤ x ∧ x < (n : Int)
  mks : ∀ m ∈ s.marks, 0 ≤ m ∧ m < (s.way.length : Int)
def s0 : RS := ⟨[0], [], []⟩
theorem s0_ok {n : Nat} (h : 0 < n) : RSOk n s0 := ⟨by simp [s0], by simp [s0]; omega, by simp [s0]⟩
theorem last_mem {l : List Int} (h : l ≠ []) : lastI l ∈ l := by
  have : l.getLast? = some (l.getLast h) := List.getLast?_eq_some_getLast h
  unfold lastI
  rw [this]
  exact List.getLast_mem h
theorem last_snoc (l : List Int) (x : Int) : lastI (l ++ [x]) = x := by simp [lastI]
theorem cell_at {tbl : List (List Int)} {w n : Nat} (h : TblOk tbl w n) {s e : Int} (hs : 0 ≤ s ∧ s < (n : Int)) (he : 0 ≤ e ∧ e < (w : Int)) : ∃ r, tbl[s.toNat]? = some r ∧ r[e.toNat]? = some (cell tbl s e) ∧ r.length = w ∧ -1 ≤ cell tbl s e ∧ cell tbl s e < (n : Int) := by
  have h1 : s.toNat < tbl.length := by rw [h.len]; omega
  have hr := h.row _ (List.getElem_mem h1)
  have h2 : e.toNat < (tbl[s.toNat]).length := by rw [hr.1]; omega
  have hc : cell tbl s e = (tbl[s.toNat])[e.toNat] := by
    unfold cell
    have e1 : tbl.getD s.toNat [] = tbl[s.toNat] := by simp [List.getD, List.getElem?_eq_getElem h1]
    rw [e1]
    simp [List.getD, List.getElem?_eq_getElem h2]
  refine ⟨_, List.getElem?_eq_getElem h1, by rw [hc]; exact List.getElem?_eq_getElem h2, hr.1, ?_⟩
  rw [hc]
  exact hr.2 _ (List.getElem_mem h2)
theorem cut_mem {n : Nat} {ms : List Int} {m : Int} (h : m ∈ cutM n ms) : m ∈ ms ∧ m < (n : Int) := by
  unfold cutM at h
  rw [List.mem_filter] at h
  exact ⟨h.1, of_decide_eq_true h.2⟩
theorem cut_id {n : Nat} {ms : List Int} (h : ∀ m ∈ ms, m < (n : Int)) : cutM n ms = ms := List.filter_eq_self.mpr fun m hm => decide_eq_true (h m hm)
theorem mem_init {x : Int} {l : List Int} (h : x ∈ l.dropLast) : x ∈ l := (List.dropLast_sublist l).subset h
theorem stp_ok {tbl : List (List Int)} {w n : Nat} (T : TblOk tbl w n) {s s' : RS} {e : Int} (o : RSOk n s) (h : stp tbl w s e = some s') : RSOk n s' := by
  unfold stp at h
  split at h
  · cases h
    refine ⟨o.ne, o.st, fun m hm => ?_⟩
    have h1 := cut_mem hm
    rcases List.mem_append.mp h1.1 with z | z
    · exact o.mks m z
    · rw [List.mem_singleton] at z
      have := List.length_pos_iff.mpr o.ne
      subst z
      exact ⟨by omega, h1.2⟩
  · split at h
    · split at h
      · cases h
      · rename_i g hg
        cases h
        have hgm := o.mks g (List.mem_of_getLast? hg)
        refine ⟨fun z => ?_, fun x hx => o.st x (List.mem_of_mem_take hx), fun m hm => ?_⟩
        · have := congrArg List.length z
          rw [List.length_take] at this
          simp only [List.length_nil] at this
          omega
        · have h1 := cut_mem hm
          exact ⟨(o.mks m (mem_init h1.1)).1, h1.2⟩
    · split at h
      · split at h
        · cases h
        · rename_i hl
          cases h
          have := List.length_pos_iff.mpr o.ne
          refine ⟨fun z => ?_, fun x hx => o.st x (mem_init hx), fun m hm => ?_⟩
          · have := congrArg List.length z
            rw [List.length_dropLast] at this
            simp only [List.length_nil] at this
            omega
          · have h1 := cut_mem hm
            refine ⟨(o.mks m h1.1).1, ?_⟩
            show m < ((s.way.dropLast).length : Int)
            rw [List.length_dropLast]
            exact h1.2
      · split at h
        · rename_i hc
          cases h
          have hb := o.st _ (last_mem o.ne)
          obtain ⟨r, _, _, _, c1, c2⟩ := cell_at T hb ⟨hc.1, hc.2.1⟩
          refine ⟨by simp, fun x hx => ?_, fun m hm => ?_⟩
          · rcases List.mem_append.mp hx with z | z
            · exact o.st x z
            · rw [List.mem_singleton] at z
              subst z
              exact ⟨hc.2.2, c2⟩
          · have h1 := cut_mem hm
            refine ⟨(o.mks m h1.1).1, ?_⟩
            show m < ((s.way ++ [_]).length : Int)
            rw [List.length_append]
            exact h1.2
        · cases h
theorem stp_len {tbl : List (List Int)} {w : Nat} {s s' : RS} {e : Int} (h : stp tbl w s e = some s') : s'.way.length ≤ s.way.length + 1 ∧ s'.plain.length ≤ s.plain.length + 1 + s.way.length ∧ s'.marks.length ≤ s.marks.length + 1 := by
  have fl : ∀ (n : Nat) (ms : List Int), (cutM n ms).length ≤ ms.length := fun n ms => List.length_filter_le _ _
  unfold stp at h
  split at h
  · cases h
    have := fl s.way.length (s.marks ++ [(s.way.length : Int) - 1])
    rw [List.length_append] at this
    exact ⟨by simp, by simp; omega, by simpa using this⟩
  · split at h
    · split at h
      · cases h
      · rename_i g hg
        cases h
        have := fl (s.way.take (g.toNat + 1)).length s.marks.dropLast
        rw [List.length_dropLast] at this
        refine ⟨by rw [List.length_take]; omega, by rw [List.length_append, List.length_replicate]; omega, by show (cutM _ _).length ≤ _; omega⟩
    · split at h
      · split at h
        · cases h
        · cases h
          have := fl (s.way.length - 1) s.marks
          refine ⟨by rw [List.length_dropLast]; omega, by rw [List.length_append, List.length_singleton]; omega, by show (cutM _ _).length ≤ _; omega⟩
      · split at h
        · cases h
          have := fl (s.way.length + 1) s.marks
          refine ⟨by simp, by rw [List.length_append, List.length_singleton]; omega, by show (cutM _ _).length ≤ _; omega⟩
        · cases h
/-- one more event -/
theorem goes_snoc {tbl : List (List Int)} {w : Nat} {e : Int} : ∀ {es : List Int} {s : RS} {f : List Int}, goes tbl w s f (es ++ [e]) = match goes tbl w s f es with
    | none => none
    | some (s', f') => match stp tbl w s' e with
      | none => none
      | some s2 => some (s2, f' ++ [lastI s2.way])
  | [], s, f => by
    show goes tbl w s f [e] = _
    simp only [goes]
  | d :: es, s, f => by
    show goes tbl w s f (d :: (es ++ [e])) = _
    simp only [goes]
    cases stp tbl w s d with
    | none => rfl
    | some s' => exact goes_snoc
theorem goes_none {tbl : List (List Int)} {w : Nat} : ∀ {es fs : List Int} {s : RS} {f : List Int}, goes tbl w s f es = none → goes tbl w s f (es ++ fs) = none
  | [], _, _, _, h => by cases h
  | d :: es, fs, s, f, h => by
    show goes tbl w s f (d :: (es ++ fs)) = none
    simp only [goes] at h ⊢
    cases z : stp tbl w s d with
    | none => rfl
    | some s' =>
      rw [z] at h
      exact goes_none h
theorem goes_ok {tbl : List (List Int)} {w n : Nat} (T : TblOk tbl w n) : ∀ {es : List Int} {s s' : RS} {f f' : List Int}, RSOk n s → goes tbl w s f es = some (s', f') → RSOk n s'
  | [], _, _, _, _, o, h => by cases h; exact o
  | e :: es, s, s', f, f', o, h => by
    simp only [goes] at h
    cases z : stp tbl w s e with
    | none => rw [z] at h; cases h
    | some s2 =>
      rw [z] at h
      exact goes_ok T (stp_ok T o z) h
theorem goes_last {tbl : List (List Int)} {w : Nat} : ∀ {es : List Int} {s s' : RS} {f f' : List Int}, f ≠ [] → lastI f = lastI s.way → goes tbl w s f es = some (s', f') → f' ≠ [] ∧ lastI f' = lastI s'.way
  | [], _, _, _, _, h0, h1, h => by cases h; exact ⟨h0, h1⟩
  | e :: es, s, s', f, f', h0, h1, h => by
    simp only [goes] at h
    cases z : stp tbl w s e with
    | none => rw [z] at h; cases h
    | some s2 =>
      rw [z] at h
      exact goes_last (by simp) (last_snoc _ _) h
end
end C
namespace C
open PySem L2 G
section
variable {P : Program} {w : World} {K : PySem.W.Frag} {mg : Str → Option Value} {base : Heap}
/-! ### machines and going -/
theorem ok_is_integer (T : Txt w K mg) : Has P w K mg base "is_integer" s_is_integer 1 ["value"] (fun vs H Q _ => ∃ i, vs = [.int i] ∧ Q (.bl true) H) := by
  refine has_mk T.d_is_integer sc_is_integer (fun _ _ _ _ _ _ us hl => match us, hl with | [_], _ => rfl) (fun vs H Q E h => ?_) (fun f cdv A outer s H vs Q E hr h => ?_)
  · obtain ⟨_, rfl, _⟩ := h
    rfl
  · obtain ⟨i, rfl, k⟩ := h
    refine ⟨_, (pss_one (ps_ret (pe_and (pe_callB call_isi (by rfl) T.b_isinstance (by decide +kernel) (pa_cons (pv 0) (pa_cons (pe_bT (n := "int") (by rfl) T.b_int (by decide +kernel)) pa_nil))) (pe_one (pe_not (pe_callB call_isi (by rfl) T.b_isinstance (by decide +kernel) (pa_cons (pv 0) (pa_cons (pe_bT (n := "bool") (by rfl) T.b_bool (by decide +kernel)) pa_nil)))))))), ?_⟩
    have di : Dp K (fun _ => none) (.int i) (.int i) := .int i
    have e : Ex (fun _ => none) H := fun _ _ h => by cases h
    walk_at "go"
    refine ifT rfl ?_
    walk_at "sx"
    exact k
theorem ok_is_number (T : Txt w K mg) : Has P w K mg base "is_number" s_is_number 2 ["value"] (fun vs H Q _ => ∃ i, vs = [.int i] ∧ Q (.bl (decide (0 ≤ i))) H) := by
  refine has_mk T.d_is_number sc_is_number (fun _ _ _ _ _ _ us hl => match us, hl with | [_], _ => rfl) (fun vs H Q E h => ?_) (fun f cdv A outer s H vs Q E hr h => ?_)
  · obtain ⟨_, rfl, _⟩ := h
    rfl
  · obtain ⟨i, rfl, k⟩ := h
    refine ⟨_, (pss_one (ps_ret (pe_and (pe_callH (ok_is_integer T) hr (by rfl) (pa_cons (pv 0) pa_nil)) (pe_one (pe_cmpR op_ge (pv 0) pe_int (nomark _)))))), ?_⟩
    walk_at "go"
    refine ⟨i, rfl, ?_⟩
    walk_at "sx"
    refine ifT rfl ?_
    walk_at "sx"
    exact k
theorem ok_is_number_below (T : Txt w K mg) : Has P w K mg base "is_number_below" s_is_number_below 3 ["value", "bound"] (fun vs H Q _ => ∃ i b, vs = [.int i, .int b] ∧ Q (.bl (decide (0 ≤ i ∧ i < b))) H) := by
  refine has_mk T.d_is_number_below sc_is_number_below (fun _ _ _ _ _ _ us hl => match us, hl with | [_, _], _ => rfl) (fun vs H Q E h => ?_) (fun f cdv A outer s H vs Q E hr h => ?_)
  · obtain ⟨_, _, rfl, _⟩ := h
    rfl
  · obtain ⟨i, b, rfl, k⟩ := h
    refine ⟨_, (pss_one (ps_ret (pe_and (pe_callH (ok_is_number T) hr (by rfl) (pa_cons (pv 0) pa_nil)) (pe_one (pe_cmpR op_lt (pv 0) (pv 1) (nomark _)))))), ?_⟩
    walk_at "go"
    refine ⟨i, rfl, ?_⟩
    walk_at "sx"
    by_cases h0 : 0 ≤ i
    · refine ifT (dT h0) ?_
      walk_at "sx"
      have : decide (0 ≤ i ∧ i < b) = decide (i < b) := by simp [h0]
      rw [← this]
      exact k
    · refine ifF (dF h0) ?_
      walk_at "sx"
      have : decide (0 ≤ i ∧ i < b) = false := decide_eq_false fun z => h0 z.1
      rw [← this]
      exact k
def mFs : List Str := ["states", "says", "start", "commands", "kinds", "table"]
theorem ok_Machine___init__ (T : Txt w K mg) : HasM P w K mg base "Machine" "__init__" "Machine.__init__" s_Machine___init__ 1 ["self", "states", "says", "start", "commands", "kinds", "table"] (spInit (cA mg "Machine") mFs) := by
  refine hasm_mk T.m_Machine___init__ sc_Machine___init__ (fun _ _ _ _ _ _ us hl => match us, hl with | [_, _, _, _, _, _, _], _ => rfl) (fun vs H Q E h => ?_) (fun f cdv A outer s H vs Q E hr h => ?_)
  · obtain ⟨_, _, us, rfl, hl, _⟩ := h
    rw [List.length_cons, hl]
    rfl
  · obtain ⟨x, dx, us, rfl, hl, hx, k⟩ := h
    match us, hl with
    | [v1, v2, v3, v4, v5, v6], _ =>
      have no := T.c_Machine.no
      refine ⟨_, (pss_cons (ps_fld (pv 0) (pv 1) rfl)
      (pss_cons (ps_fld (pv 0) (pv 2) rfl)
      (pss_cons (ps_fld (pv 0) (pv 3) rfl)
      (pss_cons (ps_fld (pv 0) (pv 4) rfl)
      (pss_cons (ps_fld (pv 0) (pv 5) rfl)
      (pss_one (ps_fld (pv 0) (pv 6) rfl))))))), ?_⟩
      walk_at "go"
      refine sx_sfld hx T.c_Machine.cl (no _ (by simp)) (by simp) fun H1 k1 h1 => ?_
      walk_at "sx"
      refine sx_sfld h1 T.c_Machine.cl (no _ (by simp)) (by show 1 < 1000; decide) fun H2 k2 h2 => ?_
      walk_at "sx"
      refine sx_sfld h2 T.c_Machine.cl (no _ (by simp)) (by show 2 < 1000; decide) fun H3 k3 h3 => ?_
      walk_at "sx"
      refine sx_sfld h3 T.c_Machine.cl (no _ (by simp)) (by show 3 < 1000; decide) fun H4 k4 h4 => ?_
      walk_at "sx"
      refine sx_sfld h4 T.c_Machine.cl (no _ (by simp)) (by show 4 < 1000; decide) fun H5 k5 h5 => ?_
      walk_at "sx"
      refine sx_sfld h5 T.c_Machine.cl (no _ (by simp)) (by show 5 < 1000; decide) fun H6 k6 h6 => ?_
      exact k H6 (fun b hb => by rw [k6 b hb, k5 b hb, k4 b hb, k3 b hb, k2 b hb, k1 b hb]) h6
end
end C
namespace C
open PySem L2 G
section
variable {P : Program} {w : World} {K : PySem.W.Frag} {mg : Str → Option Value} {base : Heap}
/-! ### going -/
theorem at_last {l : List Int} (h : l ≠ []) : atI (iV l) (-1) = some (.int (lastI l)) := by
  obtain ⟨r, z, rfl⟩ := snoc_of h
  unfold iV
  rw [List.map_append, List.map_singleton, last_snoc]
  exact atI_end
structure MachD (K : PySem.W.Frag) (mg : Str → Option Value) (B : Hp) (x : V) (tbl : List (List Int)) (w : Nat) : Prop where
  ex : ∃ a v1 v2 v4 v5 v6 cds, x = .ref a ∧ In K mg "Machine" B a [("states", v1), ("says", v2), ("start", .int 0), ("commands", v4), ("kinds", v5), ("table", v6)] ∧ Dp K B v4 (.tuple cds) ∧ cds.length = w ∧ Dp K B v6 (.tuple (tbl.map fun r => .tuple (iD r)))
theorem MachD.up {B B' : Hp} {x : V} {tbl : List (List Int)} {w : Nat} (h : MachD K mg B x tbl w) (e : Ex B B') : MachD K mg B' x tbl w := by
  obtain ⟨a, v1, v2, v4, v5, v6, cds, rfl, i, c, l, t⟩ := h
  exact ⟨a, v1, v2, v4, v5, v6, cds, rfl, i.up e, Dp.up e c, l, Dp.up e t⟩
structure GoS (K : PySem.W.Frag) (mg : Str → Option Value) (tbl : List (List Int)) (w n : Nat) (B H : Hp) (g wl cl : Addr) (way cmds : List Int) : Prop where
  e : Ex B H
  i : ∃ mv, In K mg "Going" B g [("machine", mv), ("way", .ref wl), ("commands", .ref cl)] ∧ MachD K mg B mv tbl w
  mw : Mu B H wl (iV way)
  mc : Mu B H cl (iV cmds)
  ne : wl ≠ cl
  T : TblOk tbl w n
  o0 : way ≠ []
  o1 : ∀ x ∈ way, 0 ≤ x ∧ x < (n : Int)
  ln : way.length = cmds.length + 1
theorem GoS.up {tbl : List (List Int)} {w n : Nat} {B H B' H' : Hp} {g wl cl : Addr} {way cmds : List Int} {M : List Addr} (h : GoS K mg tbl w n B H g wl cl way cmds) (m : Nx M B H B' H') (hm : wl ∉ M ∧ cl ∉ M := by simp) : GoS K mg tbl w n B' H' g wl cl way cmds := by
  obtain ⟨e, ⟨mv, i, d⟩, mw, mc, ne, T, o0, o1, ln⟩ := h
  exact ⟨m.h, ⟨mv, i.up m.b, d.up m.b⟩, mw.up m hm.1, mc.up m hm.2, ne, T, o0, o1, ln⟩
/-- a plain event -/
def pst (tbl : List (List Int)) (w : Nat) (way : List Int) (e : Int) : Option (List Int) :=
  if e = -1 then (if way.length = 1 then none else some way.dropLast)
  else if 0 ≤ e ∧ e < (w : Int) ∧ 0 ≤ cell tbl (lastI way) e then some (way ++ [cell tbl (lastI way) e])
  else none
section
variable {tbl : List (List Int)} {n0 n : Nat}
theorem ok_Going_state (T : Txt w K mg) : HasM P w K mg base "Going" "state" "Going.state" s_Going_state 1 ["self"] (fun vs H Q _ => ∃ tbl w n B g wl cl way cmds, vs = [.ref g] ∧ GoS K mg tbl w n B H g wl cl way cmds ∧ Q (.int (lastI way)) H) := by
  refine hasm_mk T.m_Going_state sc_Going_state (fun _ _ _ _ _ _ us hl => match us, hl with | [_], _ => rfl) (fun vs H Q E h => ?_) (fun f cdv A outer s H vs Q E hr h => ?_)
  · obtain ⟨_, _, _, _, _, _, _, _, _, rfl, _⟩ := h
    rfl
  · obtain ⟨tbl, wn, n, B, g, wl, cl, way, cmds, rfl, S, k⟩ := h
    refine ⟨_, (pss_one (ps_ret (pe_ix ix_list (pe_fld (pv 0) rfl) (pe_un un_neg pe_int) (fun _ _ => rfl)))), ?_⟩
    obtain ⟨e, ⟨mv, i, d⟩, mw, mc, ne, T, o0, o1, ln⟩ := S
    walk_at "go"
    refine sx_ixL mw.sq (at_last o0) ?_
    exact k
theorem ok_Going_end_of (T : Txt w K mg) : HasM P w K mg base "Going" "end_of" "Going.end_of" s_Going_end_of 4 ["self", "command"] (fun vs H Q _ => ∃ tbl wn n B g wl cl way cmds c, vs = [.ref g, .int c] ∧ GoS K mg tbl wn n B H g wl cl way cmds ∧
    (0 ≤ c ∧ c < (wn : Int) → Q (.int (cell tbl (lastI way) c)) H) ∧ (¬ (0 ≤ c ∧ c < (wn : Int)) → Q (.int (-1)) H)) := by
  refine hasm_mk T.m_Going_end_of sc_Going_end_of (fun _ _ _ _ _ _ us hl => match us, hl with | [_, _], _ => rfl) (fun vs H Q E h => ?_) (fun f cdv A outer s H vs Q E hr h => ?_)
  · obtain ⟨_, _, _, _, _, _, _, _, _, _, rfl, _⟩ := h
    rfl
  · obtain ⟨tbl, wn, n, B, g, wl, cl, way, cmds, c, rfl, S, k1, k2⟩ := h
    refine ⟨_, (pss_cons (ps_if (pt_not (pt_val (pe_callH (ok_is_number_below T) hr (by rfl) (pa_cons (pv 1) (pa_cons (pe_callB cl_len (by rfl) T.b_len (by decide +kernel) (pa_cons (pe_fld (pe_fld (pv 0) rfl) rfl) pa_nil)) pa_nil)))))
      (pss_one (ps_ret (pe_gI (by rfl) T.g_BARRED)))
      pss_nil)
      (pss_one (ps_ret (pe_ix ix_tup (pe_ix ix_tup (pe_fld (pe_fld (pv 0) rfl) rfl) (pe_meth0H (ok_Going_state T) T.c_Going hr (pv 0)) (fun _ _ => rfl)) (pv 1) (fun _ _ => rfl))))), ?_⟩
    obtain ⟨e, ⟨mv, i, d⟩, mw, mc, ne, TT, o0, o1, ln⟩ := id S
    obtain ⟨ma, v1, v2, v4, v5, v6, cds, rfl, im, dc, lc, dt⟩ := d
    walk_at "go"
    subst lc
    refine sx_lenTd dc e ?_
    walk_at "sx"
    refine ⟨c, (cds.length : Int), rfl, ?_⟩
    walk_at "sx"
    by_cases hc : 0 ≤ c ∧ c < (cds.length : Int)
    · refine ifF (by rw [dT hc]; rfl) ?_
      walk_at "sx"
      refine ⟨tbl, cds.length, n, B, g, wl, cl, way, cmds, rfl, S, ?_⟩
      walk_at "sx"
      have hb := o1 _ (last_mem o0)
      obtain ⟨r, hr1, hr2, _, _, _⟩ := cell_at TT hb hc
      refine sx_ixTd (d := .tuple (iD r)) dt e ?_ fun v7 d7 => ?_
      · rw [show lastI way = ((lastI way).toNat : Int) by omega]
        exact atI_nat (by rw [List.getElem?_map, hr1]; rfl)
      walk_at "sx"
      refine sx_ixTd (d := .int (cell tbl (lastI way) c)) d7 e ?_ fun v8 d8 => ?_
      · rw [show c = (c.toNat : Int) by omega]
        refine atI_nat ?_
        unfold iD
        rw [List.getElem?_map, hr2, show ((c.toNat : Nat) : Int) = c by omega]
        rfl
      cases Dp.int_v d8
      exact k1 hc
    · refine ifT (by rw [dF hc]; rfl) ?_
      walk_at "sx"
      exact k2 hc
theorem ok_Going_do (T : Txt w K mg) : HasM P w K mg base "Going" "do" "Going.do" s_Going_do 5 ["self", "command"] (fun vs H Q _ => ∃ tbl wn n B g wl cl way cmds c, vs = [.ref g, .int c] ∧ GoS K mg tbl wn n B H g wl cl way cmds ∧ way.length ≤ 1000 ∧
    (0 ≤ c ∧ c < (wn : Int) ∧ 0 ≤ cell tbl (lastI way) c → ∀ H', Nx [wl, cl] B H B H' → GoS K mg tbl wn n B H' g wl cl (way ++ [cell tbl (lastI way) c]) (cmds ++ [c]) → Q (.bl true) H') ∧ (¬ (0 ≤ c ∧ c < (wn : Int) ∧ 0 ≤ cell tbl (lastI way) c) → Q (.bl false) H)) := by
  refine hasm_mk T.m_Going_do sc_Going_do (fun _ _ _ _ _ _ us hl => match us, hl with | [_, _], _ => rfl) (fun vs H Q E h => ?_) (fun f cdv A outer s H vs Q E hr h => ?_)
  · obtain ⟨_, _, _, _, _, _, _, _, _, _, rfl, _⟩ := h
    rfl
  · obtain ⟨tbl, wn, n, B, g, wl, cl, way, cmds, c, rfl, S, hz, k1, k2⟩ := h
    refine ⟨_, (pss_cons (ps_set (i := 2) sc_Going_do.nd rfl (.inl rfl) (pe_methH (ok_Going_end_of T) T.c_Going hr (pv 0) (pa_cons (pv 1) pa_nil)))
      (pss_cons (ps_if (pt_cmpR op_eq (pv 2) (pe_gI (by rfl) T.g_BARRED) (nomark _))
      (pss_one (ps_ret pe_bl))
      pss_nil)
      (pss_cons (ps_expr (pe_bm PySem.F.plainAttrs_list PySem.F.slot_list_append PySem.F.type_list_append mt_append (pe_fld (pv 0) rfl) (pa_cons (pv 2) pa_nil)))
      (pss_cons (ps_expr (pe_bm PySem.F.plainAttrs_list PySem.F.slot_list_append PySem.F.type_list_append mt_append (pe_fld (pv 0) rfl) (pa_cons (pv 1) pa_nil)))
      (pss_one (ps_ret pe_bl)))))), ?_⟩
    obtain ⟨e, ⟨mv, i, d⟩, mw, mc, ne, TT, o0, o1, ln⟩ := id S
    have hb := o1 _ (last_mem o0)
    have lw : (iV way).length = way.length := by simp [iV]
    have lc : (iV cmds).length = cmds.length := by simp [iV]
    walk_at "go"
    refine ⟨tbl, wn, n, B, g, wl, cl, way, cmds, c, rfl, S, fun hc => ?_, fun hc => ?_⟩
    · obtain ⟨r, hr1, hr2, _, c1, c2⟩ := cell_at TT hb hc
      walk_at "sx"
      by_cases h0 : 0 ≤ cell tbl (lastI way) c
      · refine ifF (int_eqF (by omega)) ?_
        walk_at "sx"
        refine sx_append mw e (by omega) fun H1 n1 m1 => ?_
        have mc1 := mc.up n1 (by simp [ne.symm])
        walk_at "sx"
        refine sx_append mc1 n1.h (by omega) fun H2 n2 m2 => ?_
        walk_at "sx"
        have m12 := m1.up n2 (by simp [ne])
        refine k1 ⟨hc.1, hc.2, h0⟩ H2 ((n1.wk (by simp)).trans (n2.wk (by simp)) fun b hb _ => ?_) ⟨n2.h, ⟨mv, i, d⟩, ?_, ?_, ne, TT, by simp, fun x hx => ?_, by simp [ln]⟩
        · simp only [List.mem_cons, List.not_mem_nil, or_false] at hb
          rcases hb with rfl | rfl
          · rw [m1.h]; exact fun z => nomatch z
          · rw [mc1.h]; exact fun z => nomatch z
        · unfold iV
          rw [List.map_append]
          exact m12
        · unfold iV
          rw [List.map_append]
          exact m2
        · rcases List.mem_append.mp hx with z | z
          · exact o1 x z
          · rw [List.mem_singleton] at z
            subst z
            exact ⟨h0, c2⟩
      · refine ifT (int_eqT (by omega)) ?_
        walk_at "sx"
        exact k2 fun z => h0 z.2.2
    · walk_at "sx"
      refine ifT (int_eqT rfl) ?_
      walk_at "sx"
      exact k2 fun z => hc ⟨z.1, z.2.1⟩
theorem ok_Going_undo (T : Txt w K mg) : HasM P w K mg base "Going" "undo" "Going.undo" s_Going_undo 1 ["self"] (fun vs H Q _ => ∃ tbl wn n B g wl cl way cmds, vs = [.ref g] ∧ GoS K mg tbl wn n B H g wl cl way cmds ∧
    (way.length ≠ 1 → ∀ H', Nx [wl, cl] B H B H' → GoS K mg tbl wn n B H' g wl cl way.dropLast cmds.dropLast → Q (.bl true) H') ∧ (way.length = 1 → ∀ H', Nx [] B H B H' → Q (.bl false) H')) := by
  refine hasm_mk T.m_Going_undo sc_Going_undo (fun _ _ _ _ _ _ us hl => match us, hl with | [_], _ => rfl) (fun vs H Q E h => ?_) (fun f cdv A outer s H vs Q E hr h => ?_)
  · obtain ⟨_, _, _, _, _, _, _, _, _, rfl, _⟩ := h
    rfl
  · obtain ⟨tbl, wn, n, B, g, wl, cl, way, cmds, rfl, S, k1, k2⟩ := h
    refine ⟨_, (pss_cons (ps_if (pt_cmpR (op_eqNilL hr.units) (pe_fld (pv 0) rfl) (pe_lst pa_nil) (nomark _))
      (pss_one (ps_ret pe_bl))
      pss_nil)
      (pss_cons (ps_expr (pe_bm0 PySem.F.plainAttrs_list PySem.F.slot_list_pop PySem.F.type_list_pop mt_pop (pe_fld (pv 0) rfl)))
      (pss_cons (ps_expr (pe_bm0 PySem.F.plainAttrs_list PySem.F.slot_list_pop PySem.F.type_list_pop mt_pop (pe_fld (pv 0) rfl)))
      (pss_one (ps_ret pe_bl))))), ?_⟩
    obtain ⟨e, ⟨mv, i, d⟩, mw, mc, ne, TT, o0, o1, ln⟩ := id S
    walk_at "go"
    refine sx_newM e (by simp) fun p H1 hp n1 m1 => ?_
    have mc1 := mc.up n1
    have mw1 := mw.up n1
    refine sx_neLd mc1 m1.sq ?_
    walk_at "sx"
    by_cases hl : way.length = 1
    · have : cmds = [] := List.length_eq_zero_iff.mp (by omega)
      subst this
      refine ifT rfl ?_
      walk_at "sx"
      exact k2 hl H1 n1
    · obtain ⟨rs, z, rfl⟩ := snoc_of (xs := cmds) (fun h => hl (by rw [ln, h]; rfl))
      obtain ⟨ws, y, rfl⟩ := snoc_of o0
      refine ifF (by simp [iV]) ?_
      unfold iV at mc1 mw1
      rw [List.map_append, List.map_singleton] at mc1 mw1
      walk_at "sx"
      refine sx_pop mw1 n1.h fun H2 n2 m2 => ?_
      have mc2 := mc1.up n2 (by simp [ne.symm])
      walk_at "sx"
      refine sx_pop mc2 n2.h fun H3 n3 m3 => ?_
      walk_at "sx"
      have hin : ∀ b ∈ [wl, cl], H b ≠ none → H1 b ≠ none := fun b hb _ => by
        simp only [List.mem_cons, List.not_mem_nil, or_false] at hb
        rcases hb with rfl | rfl
        · rw [mw1.h]; exact fun z => nomatch z
        · rw [mc1.h]; exact fun z => nomatch z
      have n23 : Nx [wl, cl] B H1 B H3 := (n2.wk (by simp)).trans (n3.wk (by simp)) fun b hb _ => by
        simp only [List.mem_cons, List.not_mem_nil, or_false] at hb
        rcases hb with rfl | rfl
        · rw [m2.h]; exact fun z => nomatch z
        · rw [mc2.h]; exact fun z => nomatch z
      rw [List.length_append, List.length_append] at ln
      simp only [List.length_singleton] at ln
      refine k1 hl H3 ((n1.wk (by simp)).trans n23 hin) ⟨n3.h, ⟨mv, i, d⟩, ?_, ?_, ne, TT, fun h => hl (by rw [List.dropLast_concat] at h; rw [h]; rfl), fun x hx => o1 x (mem_init hx), ?_⟩
      · rw [List.dropLast_concat]
        exact m2.up n3 (by simp [ne])
      · rw [List.dropLast_concat]
        exact m3
      · rw [List.dropLast_concat, List.dropLast_concat]
        omega
def spGo (K : PySem.W.Frag) (mg : Str → Option Value) : Sp := fun vs H Q _ => ∃ tbl wn n B g wl cl way cmds e, vs = [.ref g, .int e] ∧ GoS K mg tbl wn n B H g wl cl way cmds ∧ way.length ≤ 1000 ∧
    (pst tbl wn way e = none → ∀ H', Nx [] B H B H' → Q (.bl false) H') ∧ (∀ way', pst tbl wn way e = some way' → ∀ H' cmds', Nx [wl, cl] B H B H' → GoS K mg tbl wn n B H' g wl cl way' cmds' → Q (.bl true) H')
theorem ok_Going_go (T : Txt w K mg) : HasM P w K mg base "Going" "go" "Going.go" s_Going_go 6 ["self", "event"] (spGo K mg) := by
  refine hasm_mk T.m_Going_go sc_Going_go (fun _ _ _ _ _ _ us hl => match us, hl with | [_, _], _ => rfl) (fun vs H Q E h => ?_) (fun f cdv A outer s H vs Q E hr h => ?_)
  · obtain ⟨_, _, _, _, _, _, _, _, _, _, rfl, _⟩ := h
    rfl
  · obtain ⟨tbl, wn, n, B, g, wl, cl, way, cmds, c, rfl, S, hz, k1, k2⟩ := h
    refine ⟨_, (pss_one (ps_ret (pe_ifExp (pt_cmpR op_eq (pv 1) (pe_gI (by rfl) T.g_UNDO) (nomark _)) (pe_meth0H (ok_Going_undo T) T.c_Going hr (pv 0)) (pe_methH (ok_Going_do T) T.c_Going hr (pv 0) (pa_cons (pv 1) pa_nil))))), ?_⟩
    obtain ⟨e, ⟨mv, i, d⟩, mw, mc, ne, TT, o0, o1, ln⟩ := id S
    walk_at "go"
    by_cases h1 : c = -1
    · refine ifT (int_eqT h1) ?_
      walk_at "sx"
      refine ⟨tbl, wn, n, B, g, wl, cl, way, cmds, rfl, S, fun hl H' n' S' => ?_, fun hl H' n' => ?_⟩
      · exact k2 _ (by unfold pst; rw [if_pos h1, if_neg hl]) H' _ n' S'
      · exact k1 (by unfold pst; rw [if_pos h1, if_pos hl]) H' n'
    · refine ifF (int_eqF h1) ?_
      walk_at "sx"
      refine ⟨tbl, wn, n, B, g, wl, cl, way, cmds, c, rfl, S, hz, fun hc H' n' S' => ?_, fun hc => ?_⟩
      · exact k2 _ (by unfold pst; rw [if_neg h1, if_pos hc]) H' _ n' S'
      · exact k1 (by unfold pst; rw [if_neg h1, if_neg hc]) H (Nx.refl e)
end
end
end C
namespace C
open PySem L2 G
section
variable {P : Program} {w : World} {K : PySem.W.Frag} {mg : Str → Option Value} {base : Heap}
/-! ### gone: a plain run -/
def spInitG (K : PySem.W.Frag) (mg : Str → Option Value) : Sp := fun vs H Q _ => ∃ x mv B dx tbl wn, vs = [.ref x, mv] ∧ Ex B H ∧ B x = none ∧ H x = some (.ins (cA mg "Going") dx []) ∧ MachD K mg B mv tbl wn ∧
    ∀ H' wl cl, Nx [x] B H B H' → H' x = some (.ins (cA mg "Going") dx [("machine", mv), ("way", .ref wl), ("commands", .ref cl)]) → Mu B H' wl [.int 0] → Mu B H' cl [] → wl ≠ cl → H wl = none → H cl = none → Q .non H'
theorem ok_Going___init__ (T : Txt w K mg) : HasM P w K mg base "Going" "__init__" "Going.__init__" s_Going___init__ 1 ["self", "machine"] (spInitG K mg) := by
  refine hasm_mk T.m_Going___init__ sc_Going___init__ (fun _ _ _ _ _ _ us hl => match us, hl with | [_, _], _ => rfl) (fun vs H Q E h => ?_) (fun f cdv A outer s H vs Q E hr h => ?_)
  · obtain ⟨_, _, _, _, _, _, rfl, _⟩ := h
    rfl
  · obtain ⟨x, mv, B, dx, tbl, wn, rfl, e, hb, hx, d, k⟩ := h
    refine ⟨_, (pss_cons (ps_fld (pv 0) (pv 1) rfl)
      (pss_cons (ps_fld (pv 0) (pe_lst (pa_cons (pe_fld (pv 1) rfl) pa_nil)) rfl)
      (pss_one (ps_fld (pv 0) (pe_lst pa_nil) rfl)))), ?_⟩
    have no := T.c_Going.no
    obtain ⟨ma, v1, v2, v4, v5, v6, cds, rfl, im, dc, lc, dt⟩ := id d
    walk_at "go"
    refine sx_sfld hx T.c_Going.cl (no _ (by simp)) (by simp) fun H1 k1 h1 => ?_
    have n1 := Nx.st e hb k1
    walk_at "sx"
    refine sx_newM n1.h (by simp) fun wl H2 hwl n2 mw => ?_
    have h2 := n2.ex _ _ h1
    have xwl : wl ≠ x := fun z => by rw [z, h1] at hwl; cases hwl
    walk_at "sx"
    refine sx_sfld h2 T.c_Going.cl (no _ (by simp)) (by show 1 < 1000; decide) fun H3 k3 h3 => ?_
    have n3 := Nx.st n2.h hb k3
    have mw3 := mw.up n3 (by simp [xwl])
    walk_at "sx"
    refine sx_newM n3.h (by simp) fun cl H4 hcl n4 mc => ?_
    have h4 := n4.ex _ _ h3
    have xcl : cl ≠ x := fun z => by rw [z, h3] at hcl; cases hcl
    have mw4 := mw3.up n4
    have ne := mw3.ne' hcl
    walk_at "sx"
    refine sx_sfld h4 T.c_Going.cl (no _ (by simp)) (by show 2 < 1000; decide) fun H5 k5 h5 => ?_
    have n5 := Nx.st n4.h hb k5
    have back : ∀ {b : Addr} {H6 : Hp}, b ≠ x → (∀ b, b ≠ x → H6 b = H b) → H6 b = none → H b = none := fun hb k h => by rw [← k _ hb]; exact h
    have i1 : H1 x ≠ none := by rw [h1]; exact fun z => nomatch z
    have i2 : H2 x ≠ none := by rw [h2]; exact fun z => nomatch z
    have i3 : H3 x ≠ none := by rw [h3]; exact fun z => nomatch z
    have i4 : H4 x ≠ none := by rw [h4]; exact fun z => nomatch z
    have n12 : Nx [x] B H B H2 := n1.trans (n2.wk (by simp)) fun b hb _ => by rw [List.mem_singleton] at hb; subst hb; exact i1
    have n13 : Nx [x] B H B H3 := n12.trans n3 fun b hb _ => by rw [List.mem_singleton] at hb; subst hb; exact i2
    have n14 : Nx [x] B H B H4 := n13.trans (n4.wk (by simp)) fun b hb _ => by rw [List.mem_singleton] at hb; subst hb; exact i3
    have n15 : Nx [x] B H B H5 := n14.trans n5 fun b hb _ => by rw [List.mem_singleton] at hb; subst hb; exact i4
    refine k H5 wl cl n15 h5 (mw4.up n5 (by simp [xwl])) (mc.up n5 (by simp [xcl])) ne (back xwl (fun b hb => k1 b hb) hwl) ?_
    have : ∀ (M : List Addr) {H6 : Hp}, Nx M B H B H6 → cl ∉ M → H6 cl = none → H cl = none := fun M H6 n hm h => by
      cases z : H cl with
      | none => rfl
      | some o =>
        have := n.k _ _ z hm
        rw [h] at this
        cases this
    exact this [x] n13 (by simp [xcl]) hcl
/-- Going(machine) -/
theorem sx_mkGo {K : PySem.W.Frag} {mg : Str → Option Value} {tbl : List (List Int)} {wn n : Nat} {B H : Hp} {mv : V} {P : Addr → Hp → Prop} {E : XK} (c : Cl K mg "Going" ["machine", "way", "commands"]) (e : Ex B H) (d : MachD K mg B mv tbl wn) (TT : TblOk tbl wn n) (h0 : 0 < n)
    (q : ∀ g B' H' wl cl, H g = none → H wl = none → H cl = none → Nx [] B H B' H' → GoS K mg tbl wn n B' H' g wl cl [0] [] → g ≠ wl → g ≠ cl → P g H') :
    ∀ a dx, H a = none → H dx = none → dx ≠ a → spInitG K mg (.ref a :: ([mv] ++ [])) (upd (upd H dx (.own a)) a (.ins (cA mg "Going") dx [])) (fun v H2 => v = .non ∧ P a H2) E := fun a dx ha hd hne => by
  have n0 : Nx [] B H B (upd (upd H dx (.own a)) a (.ins (cA mg "Going") dx [])) := Nx.raw e ha hd hne
  refine ⟨a, mv, B, dx, tbl, wn, rfl, n0.h, e.free ha, upd_same, d, fun H' wl cl n1 h1 mw mc ne hw hc => ⟨rfl, ?_⟩⟩
  have fr : ∀ {p : Addr}, (upd (upd H dx (.own a)) a (.ins (cA mg "Going") dx [])) p = none → H p = none ∧ a ≠ p := fun {p} hp => by
    have h1 : p ≠ a := fun z => by subst z; rw [upd_same] at hp; cases hp
    rw [upd_ne h1] at hp
    have h2 : p ≠ dx := fun z => by subst z; rw [upd_same] at hp; cases hp
    rw [upd_ne h2] at hp
    exact ⟨hp, h1.symm⟩
  have n2 : Nx [] B H B H' := go2 n0 n1 (fun b hb => by rw [List.mem_singleton] at hb; subst hb; exact .inr ha) (fun b hb => by simp at hb)
  have n3 := n2.frz ha (e.free ha) h1
  obtain ⟨w1, w2⟩ := fr hw
  obtain ⟨c1, c2⟩ := fr hc
  refine q a _ H' wl cl ha w1 c1 n3 ⟨n3.h, ⟨mv, ⟨⟨dx, upd_same⟩, c.cl, fun z hz => ?_⟩, d.up n3.b⟩, mw.frzO w2.symm, mc.frzO c2.symm, ne, TT, by simp, fun x hx => by simp at hx; subst hx; omega, rfl⟩ w2 c2
  simp only [List.mem_cons, List.not_mem_nil, or_false] at hz
  rcases hz with rfl | rfl | rfl
  · exact c.no _ (by simp)
  · exact c.no _ (by simp)
  · exact c.no _ (by simp)
def pgo (tbl : List (List Int)) (w : Nat) : List Int → List Int → List Int → Option (List Int × List Int)
  | way, f, [] => some (way, f)
  | way, f, e :: es => match pst tbl w way e with
    | none => none
    | some way' => pgo tbl w way' (f ++ [lastI way']) es
def pgoD (o : Option (List Int × List Int)) : PyData := match o with
  | none => .none
  | some (_, f) => .tuple (iD f)
theorem pst_len {tbl : List (List Int)} {w : Nat} {way way' : List Int} {e : Int} (h : pst tbl w way e = some way') : way'.length ≤ way.length + 1 := by
  unfold pst at h
  split at h
  · split at h
    · cases h
    · cases h
      rw [List.length_dropLast]
      omega
  · split at h
    · cases h
      simp
    · cases h
theorem ok_gone (T : Txt w K mg) : Has P w K mg base "gone" s_gone 7 ["machine", "events"] (fun vs H Q _ => ∃ B mv ev tbl wn n es, vs = [mv, .ref ev] ∧ Ex B H ∧ MachD K mg B mv tbl wn ∧ TblOk tbl wn n ∧ 0 < n ∧ SqT K B ev (iV es) ∧ es.length ≤ 900 ∧
    ∀ B' H' v, Nx [] B H B' H' → Dp K B' v (pgoD (pgo tbl wn [0] [0] es)) → Q v H') := by
  refine has_mk T.d_gone sc_gone (fun _ _ _ _ _ _ us hl => match us, hl with | [_, _], _ => rfl) (fun vs H Q E h => ?_) (fun f cdv A outer s H vs Q E hr h => ?_)
  · obtain ⟨_, _, _, _, _, _, _, rfl, _⟩ := h
    rfl
  · obtain ⟨B, mv, ev, tbl, wn, n, es, rfl, e, d, TT, h0, hS, hz, k⟩ := h
    refine ⟨_, (pss_cons (ps_set (i := 2) sc_gone.nd rfl (.inl rfl) (pe_makeH (ok_Going___init__ T) T.c_Going hr (by rfl) (pa_cons (pv 0) pa_nil)))
      (pss_cons (ps_set (i := 3) sc_gone.nd rfl (.inl rfl) (pe_lst (pa_cons (pe_meth0H (ok_Going_state T) T.c_Going hr (pv 2)) pa_nil)))
      (pss_cons (ps_for PassesOwn.never rfl (pi_tup (pv 1)) (pg_name (i := 4) sc_gone.nd rfl (.inl rfl))
      (pss_cons (ps_if (pt_not (pt_val (pe_methH (ok_Going_go T) T.c_Going hr (pv 2) (pa_cons (pv 4) pa_nil))))
      (pss_one (ps_ret pe_non))
      pss_nil)
      (pss_one (ps_expr (pe_bm PySem.F.plainAttrs_list PySem.F.slot_list_append PySem.F.type_list_append mt_append (pv 3) (pa_cons (pe_meth0H (ok_Going_state T) T.c_Going hr (pv 2)) pa_nil))))))
      (pss_one (ps_ret (pe_callTy cl_tupleF (by rfl) T.b_tuple (by decide +kernel) (pa_cons (pv 3) pa_nil))))))), ?_⟩
    walk_at "go"
    refine sx_mkGo T.c_Going e d TT h0 fun g B1 H1 wl cl hg hwl hcl n1 S1 gw gc => ?_
    obtain ⟨mv1, ig1, _⟩ := S1.i
    have e1 := S1.e
    walk_at "sx"
    walk_at "st"
    walk_at "sx"
    refine ⟨tbl, wn, n, B1, g, wl, cl, [0], [], rfl, S1, ?_⟩
    walk_at "sx"
    refine sx_newM S1.e (by simp) fun fl H2 hfl n2 mf => ?_
    have S2 := S1.up n2
    have f1 := S1.mw.ne' hfl
    have f2 := S1.mc.ne' hfl
    have hfl0 : H fl = none := n1.ex.free hfl
    walk_at "sx"
    walk_at "st"
    walk_at "sx"
    have hz0 : (iV es).length = es.length := by simp [iV]
    refine sx_forT_by ((n1.tr n2).h.t ((n1.tr n2).b.t hS)) (fun i σ H' => ∃ (way cmds f : List Int) (y4 : Option V), σ = [some mv, some (.ref ev), some (.ref g), some (.ref fl), y4] ∧ Nx [] B H B1 H' ∧ GoS K mg tbl wn n B1 H' g wl cl way cmds ∧ Mu B1 H' fl (iV f) ∧ pgo tbl wn [0] [0] es = pgo tbl wn way f (es.drop i) ∧ way.length ≤ i + 1 ∧ f.length = i + 1) ⟨[0], [], [0], _, rfl, n1.tr n2, S2, mf, rfl, by simp, rfl⟩ (fun i σ H' _ p => ?_) (fun i x σ H3 hx p => ?_) (fun σ H3 p => ?_)
    · obtain ⟨_, _, _, _, _, n, _⟩ := p
      exact n.h.t (n.b.t hS)
    · obtain ⟨way, cmds, f, y4, rfl, n3, S3, m3, ep, lw, lf⟩ := p
      obtain ⟨c, hc, rfl⟩ : ∃ c, es[i]? = some c ∧ x = V.int c := by
        unfold iV at hx
        rw [List.getElem?_map] at hx
        cases z : es[i]? with
        | none => rw [z] at hx; cases hx
        | some c => rw [z] at hx; exact ⟨c, rfl, (Option.some.inj hx).symm⟩
      have hi := (List.getElem?_eq_some_iff.mp hc).1
      have hdrop : es.drop i = c :: es.drop (i + 1) := by rw [List.drop_eq_getElem_cons hi, (List.getElem?_eq_some_iff.mp hc).2]
      rw [hdrop] at ep
      simp only [pgo] at ep
      have lf' : (iV f).length = f.length := by simp [iV]
      refine sx_gname ?_
      walk_at "st"
      obtain ⟨mv2, ig, _⟩ := S3.i
      have e3 := S3.e
      walk_at "sx"
      refine ⟨tbl, wn, n, B1, g, wl, cl, way, cmds, c, rfl, S3, by omega, fun hn H4 n4 => ?_, fun way' hs H4 cmds' n4 S4 => ?_⟩
      · walk_at "sx"
        refine ifT rfl ?_
        walk_at "sx"
        rw [hn] at ep
        exact k B1 H4 .non (n3.tr n4) (by rw [ep]; exact .non)
      · walk_at "sx"
        refine ifF rfl ?_
        rw [hs] at ep
        have m4 := m3.up n4 (by simp [f1.symm, f2.symm])
        have n34 : Nx [] B H B1 H4 := go2 n3 n4 (fun b hb => by
          simp only [List.mem_cons, List.not_mem_nil, or_false] at hb
          rcases hb with rfl | rfl
          · exact .inr hwl
          · exact .inr hcl) (fun b hb => by simp at hb)
        have e4 := S4.e
        walk_at "sx"
        refine ⟨tbl, wn, n, B1, g, wl, cl, way', cmds', rfl, S4, ?_⟩
        walk_at "sx"
        refine sx_append m4 e4 (by omega) fun H5 n5 m5 => ?_
        refine ⟨way', cmds', f ++ [lastI way'], _, rfl, n34.loc n5 (by simp [hfl0]), S4.up n5 (by simp [f1, f2]), ?_, ep, ?_, by simp [lf]⟩
        · unfold iV
          rw [List.map_append]
          exact m5
        · have := pst_len hs
          omega
    · obtain ⟨way, cmds, f, y4, rfl, n3, S3, m3, ep, lw, lf⟩ := p
      rw [hz0, List.drop_length] at ep
      walk_at "sx"
      refine ⟨fl, _, rfl, m3.sq, fun l o hl to => ?_⟩
      have df : DpAll K B1 (iV f) (iD f) := by
        clear ep lf m3
        induction f with
        | nil => exact .nil
        | cons a r ih => exact .cons (.int a) ih
      exact k _ _ _ (n3.tr (Nx.new S3.e hl)) (by rw [ep]; exact fz_dp S3.e hl df)
end
end C
namespace C
open PySem L2 G
section
variable {P : Program} {w : World} {K : PySem.W.Frag} {mg : Str → Option Value} {base : Heap}
/-! ### going with marks -/
theorem filt_iV (f : Int → Bool) (l : List Int) : (iV l).filter (fun v => match v with
    | .int i => f i
    | _ => false) = iV (l.filter f) := by
  unfold iV
  induction l with
  | nil => rfl
  | cons a r ih =>
    rw [List.map_cons, List.filter_cons, List.filter_cons, ih]
    show (if f a = true then _ else _) = _
    cases f a <;> rfl
theorem ok_marks_within (T : Txt w K mg) : Has P w K mg base "marks_within" s_marks_within 1 ["marks", "depth"] (fun vs H Q _ => ∃ B l ms d, vs = [.ref l, .int d] ∧ Ex B H ∧ SqL K H l (iV ms) ∧ ms.length ≤ 10000 ∧ ∀ p H', H p = none → Nx [] B H B H' → Mu B H' p (iV (ms.filter fun m => decide (m ≤ d))) → Q (.ref p) H') := by
  refine has_mk T.d_marks_within sc_marks_within (fun _ _ _ _ _ _ us hl => match us, hl with | [_, _], _ => rfl) (fun vs H Q E h => ?_) (fun f cdv A outer s H vs Q E hr h => ?_)
  · obtain ⟨_, _, _, _, rfl, _⟩ := h
    rfl
  · obtain ⟨B, l, ms, d, rfl, e, hS, hz, k⟩ := h
    refine ⟨_, (pss_one (ps_ret (pe_lc (own := [("mark", 2)]) (g := (gName 2)) rfl sc_marks_within.nd (pi_list (pv 0)) (blkOk_by (own := [("mark", 2)]) (N := ["marks", "depth", "mark"]) (sc := defScope s_marks_within) (by decide +kernel)) (fun _ _ _ _ _ => pg_name (i := 2) sc_marks_within.nd rfl (.inl rfl)) (fun _ _ _ _ _ => (pts_one (pt_cmpR op_le (pv 2) (pv 1) (nomark _)))) (fun _ _ _ _ _ => (pv 2))))), ?_⟩
    walk_at "go"
    refine sx_lcPure (fun v => match v with
      | .int i => decide (i ≤ d)
      | _ => false) id e hS (by simp [iV]; omega) (fun x => by simp [wipe]) (fun x hx H3 R e3 h => ?_) (fun x hx _ H3 R e3 h => ?_) fun p3 H3 hp3 n3 m3 => ?_
    · obtain ⟨i, _, rfl⟩ := List.mem_map.mp hx
      walk_at "st"
      walk_at "sx"
      exact h
    · walk_at "st"
      walk_at "sx"
      exact h
    · rw [List.map_id, filt_iV] at m3
      exact k p3 H3 hp3 n3 m3
structure MgS (K : PySem.W.Frag) (mg : Str → Option Value) (tbl : List (List Int)) (wn n : Nat) (B H : Hp) (a g wl cl ml pl : Addr) (s : RS) (cmds : List Int) : Prop where
  G : GoS K mg tbl wn n B H g wl cl s.way cmds
  b : B a = none
  i : In K mg "MarkedGoing" H a [("going", .ref g), ("marks", .ref ml), ("plain", .ref pl)]
  mm : Mu B H ml (iV s.marks)
  mp : Mu B H pl (iV s.plain)
  d : (ml ≠ wl ∧ ml ≠ cl) ∧ (pl ≠ wl ∧ pl ≠ cl) ∧ ml ≠ pl
section
variable {tbl : List (List Int)} {wn n : Nat} {B H H' : Hp} {a g wl cl ml pl : Addr} {s : RS} {cmds : List Int}
theorem MgS.ai (S : MgS K mg tbl wn n B H a g wl cl ml pl s cmds) : H a ≠ none := by
  obtain ⟨dx, h⟩ := S.i.h
  rw [h]
  exact fun z => nomatch z
theorem MgS.ne (S : MgS K mg tbl wn n B H a g wl cl ml pl s cmds) {l : Addr} {xs : List V} (m : Mu B H l xs) : l ≠ a := fun z => by
  obtain ⟨dx, h⟩ := S.i.h
  rw [← z, m.h] at h
  cases h
theorem MgS.up0 (S : MgS K mg tbl wn n B H a g wl cl ml pl s cmds) (m : Nx [] B H B H') : MgS K mg tbl wn n B H' a g wl cl ml pl s cmds := by
  obtain ⟨G, b, i, mm, mp, d⟩ := S
  obtain ⟨⟨dx, h⟩, c, no⟩ := i
  exact ⟨G.up m, b, ⟨⟨dx, m.ex _ _ h⟩, c, no⟩, mm.up m, mp.up m, d⟩
theorem MgS.alive (S : MgS K mg tbl wn n B H a g wl cl ml pl s cmds) : ∀ b ∈ [a, wl, cl, ml, pl], H b ≠ none := fun b hb => by
  simp only [List.mem_cons, List.not_mem_nil, or_false] at hb
  rcases hb with rfl | rfl | rfl | rfl | rfl
  · exact S.ai
  · exact S.G.mw.in1
  · exact S.G.mc.in1
  · exact S.mm.in1
  · exact S.mp.in1
end
theorem ok_MarkedGoing_high (T : Txt w K mg) : HasM P w K mg base "MarkedGoing" "high" "MarkedGoing.high" s_MarkedGoing_high 1 ["self"] (fun vs H Q _ => ∃ tbl wn n B a g wl cl ml pl s cmds, vs = [.ref a] ∧ MgS K mg tbl wn n B H a g wl cl ml pl s cmds ∧ Q (.int ((s.way.length : Int) - 1)) H) := by
  refine hasm_mk T.m_MarkedGoing_high sc_MarkedGoing_high (fun _ _ _ _ _ _ us hl => match us, hl with | [_], _ => rfl) (fun vs H Q E h => ?_) (fun f cdv A outer s H vs Q E hr h => ?_)
  · obtain ⟨_, _, _, _, _, _, _, _, _, _, _, _, rfl, _⟩ := h
    rfl
  · obtain ⟨tbl, wn, n, B, a, g, wl, cl, ml, pl, s, cmds, rfl, S, k⟩ := h
    refine ⟨_, (pss_one (ps_ret (pe_callB cl_len (by rfl) T.b_len (by decide +kernel) (pa_cons (pe_fld (pe_fld (pv 0) rfl) rfl) pa_nil)))), ?_⟩
    have ia := S.i
    obtain ⟨mv, ig, _⟩ := S.G.i
    have e := S.G.e
    have mc := S.G.mc
    have eh : Ex H H := Ex.refl H
    walk_at "go"
    have : ((iV cmds).length : Int) = (s.way.length : Int) - 1 := by
      have := S.G.ln
      simp [iV]
      omega
    rw [this]
    exact k
theorem ok_MarkedGoing_go_plainly (T : Txt w K mg) : HasM P w K mg base "MarkedGoing" "go_plainly" "MarkedGoing.go_plainly" s_MarkedGoing_go_plainly 7 ["self", "event"] (fun vs H Q _ => ∃ tbl wn n B a g wl cl ml pl s cmds c, vs = [.ref a, .int c] ∧ MgS K mg tbl wn n B H a g wl cl ml pl s cmds ∧ s.way.length ≤ 1000 ∧ s.plain.length ≤ 50000 ∧ s.marks.length ≤ 10000 ∧
    (pst tbl wn s.way c = none → ∀ H', Nx [] B H B H' → Q (.bl false) H') ∧ (∀ way', pst tbl wn s.way c = some way' → ∀ H' ml' cmds', Nx [a, wl, cl, ml, pl] B H B H' → (∀ b ∈ [a, wl, cl, ml, pl], H' b ≠ none) → H ml' = none → MgS K mg tbl wn n B H' a g wl cl ml' pl ⟨way', cutM way'.length s.marks, s.plain ++ [c]⟩ cmds' → Q (.bl true) H')) := by
  refine hasm_mk T.m_MarkedGoing_go_plainly sc_MarkedGoing_go_plainly (fun _ _ _ _ _ _ us hl => match us, hl with | [_, _], _ => rfl) (fun vs H Q E h => ?_) (fun f cdv A outer s H vs Q E hr h => ?_)
  · obtain ⟨_, _, _, _, _, _, _, _, _, _, _, _, _, rfl, _⟩ := h
    rfl
  · obtain ⟨tbl, wn, n, B, a, g, wl, cl, ml, pl, s, cmds, c, rfl, S, z1, z2, z3, k1, k2⟩ := h
    refine ⟨_, (pss_cons (ps_if (pt_not (pt_val (pe_methH (ok_Going_go T) T.c_Going hr (pe_fld (pv 0) rfl) (pa_cons (pv 1) pa_nil))))
      (pss_one (ps_ret pe_bl))
      pss_nil)
      (pss_cons (ps_expr (pe_bm PySem.F.plainAttrs_list PySem.F.slot_list_append PySem.F.type_list_append mt_append (pe_fld (pv 0) rfl) (pa_cons (pv 1) pa_nil)))
      (pss_cons (ps_fld (pv 0) (pe_callH (ok_marks_within T) hr (by rfl) (pa_cons (pe_fld (pv 0) rfl) (pa_cons (pe_meth0H (ok_MarkedGoing_high T) T.c_MarkedGoing hr (pv 0)) pa_nil))) rfl)
      (pss_one (ps_ret pe_bl))))), ?_⟩
    have ia := S.i
    obtain ⟨mv, ig, _⟩ := S.G.i
    have e := S.G.e
    have eh : Ex H H := Ex.refl H
    obtain ⟨⟨d1, d2⟩, ⟨d3, d4⟩, d5⟩ := S.d
    walk_at "go"
    refine ⟨tbl, wn, n, B, g, wl, cl, s.way, cmds, c, rfl, S.G, z1, fun hn H1 n1 => ?_, fun way' hs H1 cmds' n1 G1 => ?_⟩
    · walk_at "sx"
      refine ifT rfl ?_
      walk_at "sx"
      exact k1 hn H1 n1
    · walk_at "sx"
      refine ifF rfl ?_
      have nw := S.ne S.G.mw
      have nc := S.ne S.G.mc
      have nm := S.ne S.mm
      have np := S.ne S.mp
      have i1 : In K mg "MarkedGoing" H1 a [("going", .ref g), ("marks", .ref ml), ("plain", .ref pl)] := by
        obtain ⟨⟨dx, h⟩, c, no⟩ := ia
        exact ⟨⟨dx, n1.k _ _ h (by simp [nw.symm, nc.symm])⟩, c, no⟩
      have mm1 := S.mm.up n1 (by simp [d1, d2])
      have mp1 := S.mp.up n1 (by simp [d3, d4])
      have e1 := G1.e
      have eh1 : Ex H1 H1 := Ex.refl H1
      walk_at "sx"
      refine sx_append mp1 e1 (by simp [iV]; omega) fun H2 n2 mp2 => ?_
      have mm2 := mm1.up n2 (by simp [d5])
      have G2 := G1.up n2 (by simp [d3.symm, d4.symm])
      have i2 : In K mg "MarkedGoing" H2 a [("going", .ref g), ("marks", .ref ml), ("plain", .ref pl)] := by
        obtain ⟨⟨dx, h⟩, c, no⟩ := i1
        exact ⟨⟨dx, n2.k _ _ h (by simp [np.symm])⟩, c, no⟩
      have eh2 : Ex H2 H2 := Ex.refl H2
      have e2 := G2.e
      clear ia i1 eh eh1
      walk_at "sx"
      obtain ⟨mv2, ig2, _⟩ := G2.i
      refine ⟨tbl, wn, n, B, a, g, wl, cl, ml, pl, ⟨way', s.marks, s.plain ++ [c]⟩, cmds', rfl, ⟨G2, S.b, i2, mm2, ?_, S.d⟩, ?_⟩
      · unfold iV
        rw [List.map_append]
        exact mp2
      · walk_at "sx"
        refine ⟨B, ml, s.marks, _, rfl, e2, mm2.sq, z3, fun ml' H3 hml n3 mm3 => ?_⟩
        have ef : (s.marks.filter fun m => decide (m ≤ (way'.length : Int) - 1)) = cutM way'.length s.marks := by
          unfold cutM
          refine List.filter_congr fun m _ => ?_
          rw [Bool.eq_iff_iff, decide_eq_true_iff, decide_eq_true_iff]
          omega
        rw [ef] at mm3
        have G3 := G2.up n3
        have mp3 := mp2.up n3
        obtain ⟨⟨dx, h2⟩, ccl, no⟩ := i2
        have h3 := n3.ex _ _ h2
        have nml' : ml' ≠ a := fun z => by rw [z, h2] at hml; cases hml
        walk_at "sx"
        refine sx_sfld h3 ccl (no ("marks", .ref ml) (by simp)) (by show 3 < 1000; decide) fun H4 k4 h4 => ?_
        have n4 := Nx.st n3.h S.b k4
        walk_at "sx"
        have all : ∀ b ∈ [a, wl, cl, ml, pl], H1 b ≠ none := fun b hb => by
          have hb0 := S.alive b hb
          simp only [List.mem_cons, List.not_mem_nil, or_false] at hb
          rcases hb with rfl | rfl | rfl | rfl | rfl
          · exact there n1 hb0 (by simp [nw.symm, nc.symm])
          · exact G1.mw.in1
          · exact G1.mc.in1
          · exact mm1.in1
          · exact mp1.in1
        have n12 : Nx [a, wl, cl, ml, pl] B H B H2 := (n1.wk (by simp)).trans (n2.wk (by simp)) fun b hb _ => all b hb
        have all2 : ∀ b ∈ [a, wl, cl, ml, pl], H2 b ≠ none := fun b hb => by
          simp only [List.mem_cons, List.not_mem_nil, or_false] at hb
          rcases hb with rfl | rfl | rfl | rfl | rfl
          · rw [h2]; exact fun z => nomatch z
          · exact G2.mw.in1
          · exact G2.mc.in1
          · exact mm2.in1
          · exact mp2.in1
        have n13 : Nx [a, wl, cl, ml, pl] B H B H3 := n12.trans (n3.wk (by simp)) fun b hb _ => all2 b hb
        have n14 : Nx [a, wl, cl, ml, pl] B H B H4 := n13.trans (n4.wk (by simp)) fun b hb _ => there n3 (all2 b hb) (by simp)
        refine k2 way' hs H4 ml' cmds' n14 (fun b hb => ?_) ?_ ⟨G3.up n4 (by simp [S.ne S.G.mw, S.ne S.G.mc]), S.b, ⟨⟨dx, h4⟩, ccl, fun q hq => ?_⟩, mm3.up n4 (by simp [nml']), ?_, ⟨(G2.mw.ne hml), (G2.mc.ne hml)⟩, ⟨d3, d4⟩, (mp2.ne hml)⟩
        · simp only [List.mem_cons, List.not_mem_nil, or_false] at hb
          rcases hb with rfl | rfl | rfl | rfl | rfl
          · rw [h4]; exact fun z => nomatch z
          · exact (G3.mw.up n4 (by simp [S.ne S.G.mw])).in1
          · exact (G3.mc.up n4 (by simp [S.ne S.G.mc])).in1
          · exact ((mm2.up n3).up n4 (by simp [nm])).in1
          · exact (mp3.up n4 (by simp [np])).in1
        · cases z : H ml' with
          | none => rfl
          | some o =>
            by_cases hm : ml' ∈ [a, wl, cl, ml, pl]
            · exact absurd hml (all2 ml' hm)
            · have := n12.k _ _ z hm
              rw [hml] at this
              cases this
        · have hq : q ∈ [(("going" : Str), V.ref g), ("marks", V.ref ml'), ("plain", V.ref pl)] := hq
          simp only [List.mem_cons, List.not_mem_nil, or_false] at hq
          rcases hq with rfl | rfl | rfl
          · exact no ("going", .ref g) (by simp)
          · exact no ("marks", .ref ml) (by simp)
          · exact no ("plain", .ref pl) (by simp)
        · unfold iV
          rw [List.map_append]
          exact mp3.up n4 (by simp [np])
end
end C
namespace C
open PySem L2 G
section
variable {P : Program} {w : World} {K : PySem.W.Frag} {mg : Str → Option Value} {base : Heap}
/-! ### back to a mark; any event -/
theorem cut_cut {n m : Nat} (h : n ≤ m) (l : List Int) : cutM n (cutM m l) = cutM n l := by
  unfold cutM
  rw [List.filter_filter]
  refine List.filter_congr fun x _ => ?_
  rw [Bool.eq_iff_iff, Bool.and_eq_true, decide_eq_true_iff, decide_eq_true_iff]
  omega
theorem rep_snoc (k : Nat) (x : Int) : List.replicate (k + 1) x = List.replicate k x ++ [x] := List.replicate_succ'
theorem ok_MarkedGoing_go_back (T : Txt w K mg) : HasM P w K mg base "MarkedGoing" "go_back" "MarkedGoing.go_back" s_MarkedGoing_go_back 8 ["self"] (fun vs H Q _ => ∃ tbl wn n B a g wl cl ml pl s cmds, vs = [.ref a] ∧ MgS K mg tbl wn n B H a g wl cl ml pl s cmds ∧ RSOk n s ∧ s.way.length ≤ 1000 ∧ s.plain.length ≤ 40000 ∧ s.marks.length ≤ 10000 ∧
    (s.marks = [] → ∀ H', Nx [] B H B H' → Q (.bl false) H') ∧ (∀ gl, s.marks.getLast? = some gl → ∀ H' ml' cmds', Nx [a, wl, cl, ml, pl] B H B H' → (∀ b ∈ [a, wl, cl, ml, pl], H' b ≠ none) → (ml' = ml ∨ H ml' = none) →
      MgS K mg tbl wn n B H' a g wl cl ml' pl ⟨s.way.take (gl.toNat + 1), cutM (s.way.take (gl.toNat + 1)).length s.marks.dropLast, s.plain ++ List.replicate (s.way.length - 1 - gl.toNat) (-1)⟩ cmds' → Q (.bl true) H')) := by
  refine hasm_mk T.m_MarkedGoing_go_back sc_MarkedGoing_go_back (fun _ _ _ _ _ _ us hl => match us, hl with | [_], _ => rfl) (fun vs H Q E h => ?_) (fun f cdv A outer s H vs Q E hr h => ?_)
  · obtain ⟨_, _, _, _, _, _, _, _, _, _, _, _, rfl, _⟩ := h
    rfl
  · obtain ⟨tbl, wn, n, B, a, g, wl, cl, ml, pl, s, cmds, rfl, S, ok, z1, z2, z3, k1, k2⟩ := h
    refine ⟨_, (pss_cons (ps_if (pt_cmpR (op_eqNilL hr.units) (pe_fld (pv 0) rfl) (pe_lst pa_nil) (nomark _))
      (pss_one (ps_ret pe_bl))
      pss_nil)
      (pss_cons (ps_set (i := 1) sc_MarkedGoing_go_back.nd rfl (.inl rfl) (pe_bm0 PySem.F.plainAttrs_list PySem.F.slot_list_pop PySem.F.type_list_pop mt_pop (pe_fld (pv 0) rfl)))
      (G.pss_cut (ps_while PassesOwn.never (pt_cmpR op_gt (pe_meth0H (ok_MarkedGoing_high T) T.c_MarkedGoing hr (pv 0)) (pv 1) (nomark _))
      (pss_one (ps_expr (pe_methH (ok_MarkedGoing_go_plainly T) T.c_MarkedGoing hr (pv 0) (pa_cons (pe_gI (by rfl) T.g_UNDO) pa_nil)))))
      (pss_one (ps_ret pe_bl))))), ?_⟩
    have ia := S.i
    have e := S.G.e
    have eh : Ex H H := Ex.refl H
    have mm := S.mm
    walk_at "go"
    refine sx_newM e (by simp) fun p H1 hp n1 m1 => ?_
    have mm1 := mm.up n1
    refine sx_neLd mm1 m1.sq ?_
    walk_at "sx"
    have S1 := S.up0 n1
    have i1 := S1.i
    have e1 := S1.G.e
    have eh1 : Ex H1 H1 := Ex.refl H1
    by_cases hm : s.marks = []
    · refine ifT (by rw [hm]; rfl) ?_
      walk_at "sx"
      exact k1 hm H1 n1
    · obtain ⟨ms, gl, hms⟩ := snoc_of hm
      refine ifF (by rw [hms]; simp [iV]) ?_
      have mm1' := mm1
      rw [hms] at mm1'
      unfold iV at mm1'
      rw [List.map_append, List.map_singleton] at mm1'
      clear eh ia mm
      walk_at "sx"
      refine sx_pop mm1' n1.h fun H2 n2 mm2 => ?_
      have nm := S1.ne mm1
      obtain ⟨⟨dx, h1⟩, ccl, no⟩ := id i1
      have S2 : MgS K mg tbl wn n B H2 a g wl cl ml pl ⟨s.way, ms, s.plain⟩ cmds := ⟨S1.G.up n2 (by simp [S1.d.1.1.symm, S1.d.1.2.symm]), S1.b, ⟨⟨dx, n2.k _ _ h1 (by simp [nm.symm])⟩, ccl, no⟩, mm2, S1.mp.up n2 (by simp [S1.d.2.2.symm]), S1.d⟩
      walk_at "sx"
      walk_at "st"
      have hlast : s.marks.getLast? = some gl := by rw [hms]; simp
      have hgm := ok.mks gl (by rw [hms]; simp)
      have hdl : s.marks.dropLast = ms := by rw [hms, List.dropLast_concat]
      have n02 : Nx [a, wl, cl, ml, pl] B H B H2 := (n1.wk (by simp)).trans (n2.wk (by simp)) fun b hb _ => there n1 (S.alive b hb) (by simp)
      have ms_lt : ∀ m ∈ ms, m < (s.way.length : Int) := fun m hmm => (ok.mks m (by rw [hms]; simp [hmm])).2
      have lms : ms.length ≤ 10000 := by rw [hms, List.length_append] at z3; simp at z3; omega
      refine G.sx_cut (fun σ H' => ∃ ml' cmds', σ = [some (.ref a), some (.int gl)] ∧ Nx [a, wl, cl, ml, pl] B H B H' ∧ (∀ b ∈ [a, wl, cl, ml, pl], H' b ≠ none) ∧ (ml' = ml ∨ H ml' = none) ∧ MgS K mg tbl wn n B H' a g wl cl ml' pl ⟨s.way.take (gl.toNat + 1), cutM (s.way.take (gl.toNat + 1)).length ms, s.plain ++ List.replicate (s.way.length - 1 - gl.toNat) (-1)⟩ cmds') ?_ ?_
      · refine ⟨fun m σ H' => ∃ ml' cmds', σ = [some (.ref a), some (.int gl)] ∧ gl.toNat + 1 ≤ m ∧ m ≤ s.way.length ∧ Nx [a, wl, cl, ml, pl] B H B H' ∧ (ml' = ml ∨ H ml' = none) ∧ (∀ b ∈ [a, wl, cl, ml, pl], H' b ≠ none) ∧ MgS K mg tbl wn n B H' a g wl cl ml' pl ⟨s.way.take m, cutM m ms, s.plain ++ List.replicate (s.way.length - m) (-1)⟩ cmds', ?_, ?_⟩
        · refine ⟨s.way.length, ml, cmds, rfl, by omega, Nat.le_refl _, n02, .inl rfl, fun b hb => S2.alive b hb, ?_⟩
          rw [List.take_length, Nat.sub_self, cut_id ms_lt, List.replicate_zero, List.append_nil]
          exact S2
        · rintro m σ H3 ⟨ml', cmds', rfl, m1', m2', n3, hml, al, S3⟩
          have i3 := S3.i
          have eh3 : Ex H3 H3 := Ex.refl H3
          clear eh1 i1
          walk_at "sx"
          refine ⟨tbl, wn, n, B, a, g, wl, cl, ml', pl, _, cmds', rfl, S3, ?_⟩
          walk_at "sx"
          have lt : (s.way.take m).length = m := by rw [List.length_take]; omega
          by_cases hgt : gl < ((s.way.take m).length : Int) - 1
          · refine ifT (dT hgt) ?_
            refine ⟨_, fun _ _ h => h, ?_⟩
            walk_at "sx"
            have hp1 : pst tbl wn (s.way.take m) (-1) = some (s.way.take (m - 1)) := by
              unfold pst
              rw [if_pos rfl, if_neg (by omega), List.dropLast_eq_take, lt, List.take_take, Nat.min_eq_left (by omega)]
            refine ⟨tbl, wn, n, B, a, g, wl, cl, ml', pl, _, cmds', -1, rfl, S3, by show (s.way.take m).length ≤ 1000; omega, ?_, ?_, fun hn => ?_, fun way' hs H4 ml4 cmds4 n4 al4 hml4 S4 => ?_⟩
            · show (s.plain ++ List.replicate (s.way.length - m) (-1)).length ≤ 50000
              rw [List.length_append, List.length_replicate]
              omega
            · exact Nat.le_trans (List.length_filter_le _ _) lms
            · exact absurd (hn.symm.trans hp1) (by simp)
            · have hs : pst tbl wn (s.way.take m) (-1) = some way' := hs
              rw [hp1] at hs
              cases hs
              have ew : (s.way.take (m - 1)).length = m - 1 := by rw [List.length_take]; omega
              refine ⟨m - 1, by omega, ml4, cmds4, rfl, by omega, by omega, ?_, .inr ?_, fun b hb => ?_, ?_⟩
              · exact go2 n3 n4 (fun b hb => by
                  simp only [List.mem_cons, List.not_mem_nil, or_false] at hb ⊢
                  rcases hb with rfl | rfl | rfl | rfl | rfl
                  · simp
                  · simp
                  · simp
                  · rcases hml with h | h
                    · subst h; simp
                    · exact .inr h
                  · simp) (fun b hb _ => al b hb)
              · cases z : H ml4 with
                | none => rfl
                | some o =>
                  by_cases hmm : ml4 ∈ [a, wl, cl, ml, pl]
                  · exact absurd hml4 (al ml4 hmm)
                  · have := n3.k _ _ z hmm
                    rw [hml4] at this
                    cases this
              · by_cases hmm : b ∈ [a, wl, cl, ml', pl]
                · exact al4 b hmm
                · exact there n4 (al b hb) hmm
              · rw [ew, cut_cut (by omega)] at S4
                rw [show s.way.length - (m - 1) = (s.way.length - m) + 1 by omega, rep_snoc, ← List.append_assoc]
                exact S4
          · refine ifF (dF hgt) ?_
            have hm1 : m = gl.toNat + 1 := by omega
            subst hm1
            refine ⟨ml', cmds', rfl, n3, al, hml, ?_⟩
            rw [lt, show s.way.length - 1 - gl.toNat = s.way.length - (gl.toNat + 1) by omega]
            exact S3
      · rintro σ H' ⟨ml', cmds', rfl, n3, al, hml, S3⟩
        walk_at "sx"
        exact k2 gl hlast H' ml' cmds' n3 al hml (by rw [hdl]; exact S3)
end
end C
namespace C
open PySem L2 G
section
variable {P : Program} {w : World} {K : PySem.W.Frag} {mg : Str → Option Value} {base : Heap}
/-! ### any event; whole runs -/
theorem pst_stp {tbl : List (List Int)} {w : Nat} {s : RS} {e : Int} (h2 : e ≠ -2) (h3 : e ≠ -3) : stp tbl w s e = (pst tbl w s.way e).map fun way' => ⟨way', cutM way'.length s.marks, s.plain ++ [e]⟩ := by
  unfold stp pst
  rw [if_neg h2, if_neg h3]
  by_cases h1 : e = -1
  · rw [if_pos h1, if_pos h1]
    by_cases hl : s.way.length = 1
    · rw [if_pos hl, if_pos hl]
      rfl
    · rw [if_neg hl, if_neg hl, h1]
      show _ = some (RS.mk s.way.dropLast (cutM s.way.dropLast.length s.marks) (s.plain ++ [-1]))
      rw [List.length_dropLast]
  · rw [if_neg h1, if_neg h1]
    split
    · show _ = some (RS.mk (s.way ++ [_]) (cutM (s.way ++ [_]).length s.marks) (s.plain ++ [e]))
      rw [List.length_append]
      rfl
    · rfl
def spMGo (K : PySem.W.Frag) (mg : Str → Option Value) : Sp := fun vs H Q _ => ∃ tbl wn n B a g wl cl ml pl s cmds c, vs = [.ref a, .int c] ∧ MgS K mg tbl wn n B H a g wl cl ml pl s cmds ∧ RSOk n s ∧ s.way.length ≤ 1000 ∧ s.plain.length ≤ 40000 ∧ s.marks.length ≤ 9000 ∧
    (stp tbl wn s c = none → ∀ H', Nx [] B H B H' → Q (.bl false) H') ∧ (∀ s', stp tbl wn s c = some s' → ∀ H' ml' cmds', Nx [a, wl, cl, ml, pl] B H B H' → (∀ b ∈ [a, wl, cl, ml, pl], H' b ≠ none) → (ml' = ml ∨ H ml' = none) →
      MgS K mg tbl wn n B H' a g wl cl ml' pl s' cmds' → Q (.bl true) H')
theorem ok_MarkedGoing_go (T : Txt w K mg) : HasM P w K mg base "MarkedGoing" "go" "MarkedGoing.go" s_MarkedGoing_go 9 ["self", "event"] (spMGo K mg) := by
  refine hasm_mk T.m_MarkedGoing_go sc_MarkedGoing_go (fun _ _ _ _ _ _ us hl => match us, hl with | [_, _], _ => rfl) (fun vs H Q E h => ?_) (fun f cdv A outer s H vs Q E hr h => ?_)
  · obtain ⟨_, _, _, _, _, _, _, _, _, _, _, _, _, rfl, _⟩ := h
    rfl
  · obtain ⟨tbl, wn, n, B, a, g, wl, cl, ml, pl, s, cmds, c, rfl, S, ok, z1, z2, z3, k1, k2⟩ := h
    refine ⟨_, (pss_cons (ps_if (pt_cmpR op_eq (pv 1) (pe_gI (by rfl) T.g_MARK) (nomark _))
      (pss_cons (ps_expr (pe_bm PySem.F.plainAttrs_list PySem.F.slot_list_append PySem.F.type_list_append mt_append (pe_fld (pv 0) rfl) (pa_cons (pe_meth0H (ok_MarkedGoing_high T) T.c_MarkedGoing hr (pv 0)) pa_nil)))
      (pss_one (ps_ret pe_bl)))
      pss_nil)
      (pss_one (ps_ret (pe_ifExp (pt_cmpR op_eq (pv 1) (pe_gI (by rfl) T.g_BACK) (nomark _)) (pe_meth0H (ok_MarkedGoing_go_back T) T.c_MarkedGoing hr (pv 0)) (pe_methH (ok_MarkedGoing_go_plainly T) T.c_MarkedGoing hr (pv 0) (pa_cons (pv 1) pa_nil)))))), ?_⟩
    have ia := S.i
    have e := S.G.e
    have eh : Ex H H := Ex.refl H
    have mm := S.mm
    walk_at "go"
    by_cases h2 : c = -2
    · refine ifT (int_eqT h2) ?_
      walk_at "sx"
      refine ⟨tbl, wn, n, B, a, g, wl, cl, ml, pl, s, cmds, rfl, S, ?_⟩
      walk_at "sx"
      refine sx_append mm e (by simp [iV]; omega) fun H1 n1 m1 => ?_
      walk_at "sx"
      have nm := S.ne mm
      obtain ⟨⟨dx, h1⟩, ccl, no⟩ := id ia
      have hs : stp tbl wn s c = some ⟨s.way, s.marks ++ [(s.way.length : Int) - 1], s.plain⟩ := by
        unfold stp
        rw [if_pos h2, cut_id]
        intro m hm
        rcases List.mem_append.mp hm with y | y
        · exact (ok.mks m y).2
        · rw [List.mem_singleton] at y
          omega
      refine k2 _ hs H1 ml cmds (n1.wk (by simp)) (fun b hb => ?_) (.inl rfl) ⟨S.G.up n1 (by simp [S.d.1.1.symm, S.d.1.2.symm]), S.b, ⟨⟨dx, n1.k _ _ h1 (by simp [nm.symm])⟩, ccl, no⟩, ?_, S.mp.up n1 (by simp [S.d.2.2.symm]), S.d⟩
      · by_cases hm : b = ml
        · subst hm
          exact m1.in1
        · exact there n1 (S.alive b hb) (by simpa using hm)
      · unfold iV
        rw [List.map_append]
        exact m1
    · refine ifF (int_eqF h2) ?_
      walk_at "sx"
      by_cases h3 : c = -3
      · refine ifT (int_eqT h3) ?_
        walk_at "sx"
        refine ⟨tbl, wn, n, B, a, g, wl, cl, ml, pl, s, cmds, rfl, S, ok, z1, z2, by omega, fun hm H1 n1 => ?_, fun gl hg H1 ml' cmds' n1 al hml S1 => ?_⟩
        · refine k1 ?_ H1 n1
          unfold stp
          rw [if_neg h2, if_pos h3, hm]
          rfl
        · refine k2 _ ?_ H1 ml' cmds' n1 al hml S1
          unfold stp
          rw [if_neg h2, if_pos h3, hg]
      · refine ifF (int_eqF h3) ?_
        walk_at "sx"
        have hp := pst_stp (tbl := tbl) (w := wn) (s := s) h2 h3
        refine ⟨tbl, wn, n, B, a, g, wl, cl, ml, pl, s, cmds, c, rfl, S, z1, by omega, by omega, fun hn H1 n1 => ?_, fun way' hs H1 ml' cmds' n1 al hml S1 => ?_⟩
        · exact k1 (by rw [hp, hn]; rfl) H1 n1
        · exact k2 _ (by rw [hp, hs]; rfl) H1 ml' cmds' n1 al (.inr hml) S1
def spInitMg (K : PySem.W.Frag) (mg : Str → Option Value) : Sp := fun vs H Q _ => ∃ x mv B dx tbl wn n, vs = [.ref x, mv] ∧ Ex B H ∧ B x = none ∧ H x = some (.ins (cA mg "MarkedGoing") dx []) ∧ MachD K mg B mv tbl wn ∧ TblOk tbl wn n ∧ 0 < n ∧
    ∀ B' H' g wl cl ml pl, Nx [x] B H B' H' → B' x = none → H g = none → H wl = none → H cl = none → H ml = none → H pl = none → MgS K mg tbl wn n B' H' x g wl cl ml pl s0 [] → Q .non H'
theorem ok_MarkedGoing___init__ (T : Txt w K mg) : HasM P w K mg base "MarkedGoing" "__init__" "MarkedGoing.__init__" s_MarkedGoing___init__ 3 ["self", "machine"] (spInitMg K mg) := by
  refine hasm_mk T.m_MarkedGoing___init__ sc_MarkedGoing___init__ (fun _ _ _ _ _ _ us hl => match us, hl with | [_, _], _ => rfl) (fun vs H Q E h => ?_) (fun f cdv A outer s H vs Q E hr h => ?_)
  · obtain ⟨_, _, _, _, _, _, _, rfl, _⟩ := h
    rfl
  · obtain ⟨x, mv, B, dx, tbl, wn, n, rfl, e, hb, hx, d, TT, h0, k⟩ := h
    refine ⟨_, (pss_cons (ps_fld (pv 0) (pe_makeH (ok_Going___init__ T) T.c_Going hr (by rfl) (pa_cons (pv 1) pa_nil)) rfl)
      (pss_cons (ps_fld (pv 0) (pe_lst pa_nil) rfl)
      (pss_one (ps_fld (pv 0) (pe_lst pa_nil) rfl)))), ?_⟩
    have no := T.c_MarkedGoing.no
    walk_at "go"
    refine sx_mkGo T.c_Going e d TT h0 fun g B1 H1 wl cl hg hwl hcl n1 S1 gw gc => ?_
    have h1 := n1.ex _ _ hx
    have hb1 : B1 x = none := n1.f x hb (by rw [hx]; exact fun z => nomatch z)
    walk_at "sx"
    refine sx_sfld h1 T.c_MarkedGoing.cl (no _ (by simp)) (by simp) fun H2 k2 h2 => ?_
    have n2 := Nx.st S1.e hb1 k2
    have nw : wl ≠ x := fun z => by rw [z, hx] at hwl; cases hwl
    have nc : cl ≠ x := fun z => by rw [z, hx] at hcl; cases hcl
    have S2 := S1.up n2 (by simp [nw, nc])
    walk_at "sx"
    refine sx_newM S2.e (by simp) fun ml H3 hml n3 mm => ?_
    have h3 := n3.ex _ _ h2
    have nm : ml ≠ x := fun z => by rw [z, h2] at hml; cases hml
    have S3 := S2.up n3
    walk_at "sx"
    refine sx_sfld h3 T.c_MarkedGoing.cl (no _ (by simp)) (by show 1 < 1000; decide) fun H4 k4 h4 => ?_
    have n4 := Nx.st S3.e hb1 k4
    have mm4 := mm.up n4 (by simp [nm])
    have S4 := S3.up n4 (by simp [nw, nc])
    walk_at "sx"
    refine sx_newM S4.e (by simp) fun pl H5 hpl n5 mp => ?_
    have h5 := n5.ex _ _ h4
    have np : pl ≠ x := fun z => by rw [z, h4] at hpl; cases hpl
    have S5 := S4.up n5
    have mm5 := mm4.up n5
    walk_at "sx"
    refine sx_sfld h5 T.c_MarkedGoing.cl (no _ (by simp)) (by show 2 < 1000; decide) fun H6 k6 h6 => ?_
    have n6 := Nx.st S5.e hb1 k6
    have w0 : Own [x] B H B H [] := Own.begin e (fun b hb => by rw [List.mem_singleton] at hb; subst hb; rw [hx]; exact fun z => nomatch z)
    have w1 := w0.up n1
    have w2 := w1.upM n2 (fun b hb => by rw [List.mem_singleton] at hb; subst hb; rw [h2]; exact fun z => nomatch z)
    have w3 := w2.up n3
    have w4 := w3.upM n4 (fun b hb => by rw [List.mem_singleton] at hb; subst hb; rw [h4]; exact fun z => nomatch z)
    have w5 := w4.up n5
    have w6 := w5.upM n6 (fun b hb => by rw [List.mem_singleton] at hb; subst hb; rw [h6]; exact fun z => nomatch z)
    refine k B1 H6 g wl cl ml pl w6.n hb1 hg hwl hcl (free_back w2.n w2.hM hml) (free_back w4.n w4.hM hpl) ⟨S5.up n6 (by simp [nw, nc]), hb1, ⟨⟨dx, h6⟩, T.c_MarkedGoing.cl, fun q hq => ?_⟩, mm5.up n6 (by simp [nm]), mp.up n6 (by simp [np]), ⟨S2.mw.ne hml, S2.mc.ne hml⟩, ⟨S4.mw.ne hpl, S4.mc.ne hpl⟩, mm4.ne' hpl⟩
    have hq : q ∈ [(("going" : Str), V.ref g), ("marks", V.ref ml), ("plain", V.ref pl)] := hq
    simp only [List.mem_cons, List.not_mem_nil, or_false] at hq
    rcases hq with rfl | rfl | rfl
    · exact no _ (by simp)
    · exact no _ (by simp)
    · exact no _ (by simp)
end
end C
namespace C
open PySem L2 G
section
variable {P : Program} {w : World} {K : PySem.W.Frag} {mg : Str → Option Value} {base : Heap}
/-! ### marked_run, plain_events -/
theorem sx_mkMg {K : PySem.W.Frag} {mg : Str → Option Value} {tbl : List (List Int)} {wn n : Nat} {B H : Hp} {mv : V} {P : Addr → Hp → Prop} {E : XK} (e : Ex B H) (d : MachD K mg B mv tbl wn) (TT : TblOk tbl wn n) (h0 : 0 < n)
    (q : ∀ a B' H' g wl cl ml pl, H a = none → H wl = none → H cl = none → H ml = none → H pl = none → Nx [] B H B' H' → MgS K mg tbl wn n B' H' a g wl cl ml pl s0 [] → P a H') :
    ∀ a dx, H a = none → H dx = none → dx ≠ a → spInitMg K mg (.ref a :: ([mv] ++ [])) (upd (upd H dx (.own a)) a (.ins (cA mg "MarkedGoing") dx [])) (fun v H2 => v = .non ∧ P a H2) E := fun a dx ha hd hne => by
  have n0 : Nx [] B H B (upd (upd H dx (.own a)) a (.ins (cA mg "MarkedGoing") dx [])) := Nx.raw e ha hd hne
  have fr : ∀ {p : Addr}, (upd (upd H dx (.own a)) a (.ins (cA mg "MarkedGoing") dx [])) p = none → H p = none := fun {p} hp => by
    have h1 : p ≠ a := fun z => by subst z; rw [upd_same] at hp; cases hp
    rw [upd_ne h1] at hp
    have h2 : p ≠ dx := fun z => by subst z; rw [upd_same] at hp; cases hp
    rwa [upd_ne h2] at hp
  refine ⟨a, mv, B, dx, tbl, wn, n, rfl, n0.h, e.free ha, upd_same, d, TT, h0, fun B' H' g wl cl ml pl n1 hb _ hw hc hm hp S => ⟨rfl, ?_⟩⟩
  exact q a B' H' g wl cl ml pl ha (fr hw) (fr hc) (fr hm) (fr hp) (go2 n0 n1 (fun b hb => by rw [List.mem_singleton] at hb; subst hb; exact .inr ha) (fun b hb => by simp at hb)) S
def mD (o : Option (RS × List Int)) : PyData := match o with
  | none => .none
  | some (_, f) => .tuple (iD f)
def pD (o : Option (RS × List Int)) : PyData := match o with
  | none => .none
  | some (s, _) => .tuple (iD s.plain)
theorem ints_d {K : PySem.W.Frag} {B : Hp} : ∀ (l : List Int), DpAll K B (iV l) (iD l)
  | [] => .nil
  | a :: r => .cons (.int a) (ints_d r)
theorem iV_len (l : List Int) : (iV l).length = l.length := by simp [iV]
theorem iV_at {l : List Int} {i : Nat} {x : V} (h : (iV l)[i]? = some x) : ∃ c, l[i]? = some c ∧ x = V.int c := by
  unfold iV at h
  rw [List.getElem?_map] at h
  cases z : l[i]? with
  | none => rw [z] at h; cases h
  | some c => rw [z] at h; exact ⟨c, rfl, (Option.some.inj h).symm⟩
def spRun (K : PySem.W.Frag) (mg : Str → Option Value) (D : Option (RS × List Int) → PyData) : Sp := fun vs H Q _ => ∃ B mv ev tbl wn n es, vs = [mv, .ref ev] ∧ Ex B H ∧ MachD K mg B mv tbl wn ∧ TblOk tbl wn n ∧ 0 < n ∧ SqT K B ev (iV es) ∧ es.length ≤ 100 ∧
    ∀ B' H' v, Nx [] B H B' H' → Dp K B' v (D (goes tbl wn s0 [0] es)) → Q v H'
theorem ok_marked_run (T : Txt w K mg) : Has P w K mg base "marked_run" s_marked_run 10 ["machine", "events"] (spRun K mg mD) := by
  refine has_mk T.d_marked_run sc_marked_run (fun _ _ _ _ _ _ us hl => match us, hl with | [_, _], _ => rfl) (fun vs H Q E h => ?_) (fun f cdv A outer s H vs Q E hr h => ?_)
  · obtain ⟨_, _, _, _, _, _, _, rfl, _⟩ := h
    rfl
  · obtain ⟨B, mv, ev, tbl, wn, n, es, rfl, e, d, TT, h0, hS, hz, k⟩ := h
    refine ⟨_, (pss_cons (ps_set (i := 2) sc_marked_run.nd rfl (.inl rfl) (pe_makeH (ok_MarkedGoing___init__ T) T.c_MarkedGoing hr (by rfl) (pa_cons (pv 0) pa_nil)))
      (pss_cons (ps_set (i := 3) sc_marked_run.nd rfl (.inl rfl) (pe_lst (pa_cons (pe_meth0H (ok_Going_state T) T.c_Going hr (pe_fld (pv 2) rfl)) pa_nil)))
      (pss_cons (ps_for PassesOwn.never rfl (pi_tup (pv 1)) (pg_name (i := 4) sc_marked_run.nd rfl (.inl rfl))
      (pss_cons (ps_if (pt_not (pt_val (pe_methH (ok_MarkedGoing_go T) T.c_MarkedGoing hr (pv 2) (pa_cons (pv 4) pa_nil))))
      (pss_one (ps_ret pe_non))
      pss_nil)
      (pss_one (ps_expr (pe_bm PySem.F.plainAttrs_list PySem.F.slot_list_append PySem.F.type_list_append mt_append (pv 3) (pa_cons (pe_meth0H (ok_Going_state T) T.c_Going hr (pe_fld (pv 2) rfl)) pa_nil))))))
      (pss_one (ps_ret (pe_callTy cl_tupleF (by rfl) T.b_tuple (by decide +kernel) (pa_cons (pv 3) pa_nil))))))), ?_⟩
    walk_at "go"
    refine sx_mkMg e d TT h0 fun a B1 H1 g wl cl ml pl ha hwl hcl hml hpl n1 S1 => ?_
    have i1 := S1.i
    have eh1 : Ex H1 H1 := Ex.refl H1
    have e1 := S1.G.e
    obtain ⟨mv1, ig1, _⟩ := S1.G.i
    walk_at "sx"
    walk_at "st"
    walk_at "sx"
    refine ⟨tbl, wn, n, B1, g, wl, cl, _, _, rfl, S1.G, ?_⟩
    walk_at "sx"
    refine sx_newM e1 (by simp) fun fl H2 hfl n2 mf => ?_
    have S2 := S1.up0 n2
    have f1 := S1.G.mw.ne hfl
    have f2 := S1.G.mc.ne hfl
    have f3 := S1.mm.ne hfl
    have f4 := S1.mp.ne hfl
    have hfl0 : H fl = none := n1.ex.free hfl
    have n12 := n1.tr n2
    walk_at "sx"
    walk_at "st"
    walk_at "sx"
    refine sx_forT_by (n12.h.t (n12.b.t hS)) (fun i σ H' => ∃ (s : RS) (cmds f : List Int) (ml' : Addr) (y4 : Option V), σ = [some mv, some (.ref ev), some (.ref a), some (.ref fl), y4] ∧ Nx [] B H B1 H' ∧ H ml' = none ∧ MgS K mg tbl wn n B1 H' a g wl cl ml' pl s cmds ∧ RSOk n s ∧ Mu B1 H' fl (iV f) ∧ (fl ≠ wl ∧ fl ≠ cl ∧ fl ≠ ml' ∧ fl ≠ pl) ∧ goes tbl wn s0 [0] es = goes tbl wn s f (es.drop i) ∧ s.way.length ≤ i + 1 ∧ s.plain.length ≤ 102 * i ∧ s.marks.length ≤ i ∧ f.length = i + 1) ?_ (fun i σ H' _ p => ?_) (fun i x σ H3 hx p => ?_) (fun σ H3 p => ?_)
    · exact ⟨s0, [], [0], ml, _, rfl, n12, hml, S2, s0_ok h0, mf, ⟨f1, f2, f3, f4⟩, rfl, by simp [s0], by simp [s0], by simp [s0], rfl⟩
    · obtain ⟨_, _, _, _, _, _, n, _⟩ := p
      exact n.h.t (n.b.t hS)
    · obtain ⟨s, cmds, f, ml', y4, rfl, n3, hml3, S3, ok3, m3, ⟨q1, q2, q3, q4⟩, ep, lw, lp, lm, lf⟩ := p
      obtain ⟨c, hc, rfl⟩ := iV_at hx
      have hi := (List.getElem?_eq_some_iff.mp hc).1
      have hdrop : es.drop i = c :: es.drop (i + 1) := by rw [List.drop_eq_getElem_cons hi, (List.getElem?_eq_some_iff.mp hc).2]
      rw [hdrop] at ep
      simp only [goes] at ep
      refine sx_gname ?_
      walk_at "st"
      have i3 := S3.i
      have e3 := S3.G.e
      have eh3 : Ex H3 H3 := Ex.refl H3
      clear i1 eh1
      walk_at "sx"
      refine ⟨tbl, wn, n, B1, a, g, wl, cl, ml', pl, s, cmds, c, rfl, S3, ok3, by omega, by omega, by omega, fun hn H4 n4 => ?_, fun s' hs H4 ml4 cmds' n4 al hml4 S4 => ?_⟩
      · walk_at "sx"
        refine ifT rfl ?_
        walk_at "sx"
        rw [hn] at ep
        exact k B1 H4 .non (n3.tr n4) (by rw [ep]; exact .non)
      · walk_at "sx"
        refine ifF rfl ?_
        rw [hs] at ep
        have n34 : Nx [] B H B1 H4 := go2 n3 n4 (fun b hb => by
          simp only [List.mem_cons, List.not_mem_nil, or_false] at hb
          rcases hb with rfl | rfl | rfl | rfl | rfl
          · exact .inr ha
          · exact .inr hwl
          · exact .inr hcl
          · exact .inr hml3
          · exact .inr hpl) (fun b hb => by simp at hb)
        have hm4 : H ml4 = none := by
          rcases hml4 with h | h
          · rw [h]; exact hml3
          · exact n3.ex.free h
        have sl := stp_len hs
        have ok4 := stp_ok TT ok3 hs
        have na := S3.ne m3
        have m4 := m3.up n4 (by simp [na, q1, q2, q3, q4])
        have q3' : fl ≠ ml4 := by
          rcases hml4 with h | h
          · rw [h]; exact q3
          · exact m3.ne' h
        have i4 := S4.i
        have e4 := S4.G.e
        have eh4 : Ex H4 H4 := Ex.refl H4
        obtain ⟨mv4, ig4, _⟩ := S4.G.i
        clear i3 eh3
        walk_at "sx"
        refine ⟨tbl, wn, n, B1, g, wl, cl, _, _, rfl, S4.G, ?_⟩
        walk_at "sx"
        refine sx_append m4 e4 (by rw [iV_len]; omega) fun H5 n5 m5 => ?_
        have na4 := S4.ne m4
        have S5 : MgS K mg tbl wn n B1 H5 a g wl cl ml4 pl s' cmds' := by
          obtain ⟨⟨dx, h4⟩, ccl, no⟩ := i4
          exact ⟨S4.G.up n5 (by simp [q1.symm, q2.symm]), S4.b, ⟨⟨dx, n5.k _ _ h4 (by simp [na4.symm])⟩, ccl, no⟩, S4.mm.up n5 (by simp [q3'.symm]), S4.mp.up n5 (by simp [q4.symm]), S4.d⟩
        refine ⟨s', cmds', f ++ [lastI s'.way], ml4, _, rfl, n34.loc n5 (by simp [hfl0]), hm4, S5, ok4, ?_, ⟨q1, q2, q3', q4⟩, ep, by omega, by omega, by omega, by simp [lf]⟩
        unfold iV
        rw [List.map_append]
        exact m5
    · obtain ⟨s, cmds, f, ml', y4, rfl, n3, hml3, S3, ok3, m3, ⟨q1, q2, q3, q4⟩, ep, lw, lp, lm, lf⟩ := p
      rw [iV_len, List.drop_length] at ep
      walk_at "sx"
      refine ⟨fl, _, rfl, m3.sq, fun l o hl to => ?_⟩
      exact k _ _ _ (n3.tr (Nx.new S3.G.e hl)) (by rw [ep]; exact fz_dp S3.G.e hl (ints_d f))
theorem ok_plain_events (T : Txt w K mg) : Has P w K mg base "plain_events" s_plain_events 10 ["machine", "events"] (spRun K mg pD) := by
  refine has_mk T.d_plain_events sc_plain_events (fun _ _ _ _ _ _ us hl => match us, hl with | [_, _], _ => rfl) (fun vs H Q E h => ?_) (fun f cdv A outer s H vs Q E hr h => ?_)
  · obtain ⟨_, _, _, _, _, _, _, rfl, _⟩ := h
    rfl
  · obtain ⟨B, mv, ev, tbl, wn, n, es, rfl, e, d, TT, h0, hS, hz, k⟩ := h
    refine ⟨_, (pss_cons (ps_set (i := 2) sc_plain_events.nd rfl (.inl rfl) (pe_makeH (ok_MarkedGoing___init__ T) T.c_MarkedGoing hr (by rfl) (pa_cons (pv 0) pa_nil)))
      (pss_cons (ps_for PassesOwn.never rfl (pi_tup (pv 1)) (pg_name (i := 3) sc_plain_events.nd rfl (.inl rfl))
      (pss_one (ps_if (pt_not (pt_val (pe_methH (ok_MarkedGoing_go T) T.c_MarkedGoing hr (pv 2) (pa_cons (pv 3) pa_nil))))
      (pss_one (ps_ret pe_non))
      pss_nil)))
      (pss_one (ps_ret (pe_callTy cl_tupleF (by rfl) T.b_tuple (by decide +kernel) (pa_cons (pe_fld (pv 2) rfl) pa_nil)))))), ?_⟩
    walk_at "go"
    refine sx_mkMg e d TT h0 fun a B1 H1 g wl cl ml pl ha hwl hcl hml hpl n1 S1 => ?_
    have i1 := S1.i
    have eh1 : Ex H1 H1 := Ex.refl H1
    have e1 := S1.G.e
    obtain ⟨mv1, ig1, _⟩ := S1.G.i
    walk_at "sx"
    walk_at "st"
    walk_at "sx"
    have S2 := S1
    have n12 := n1
    refine sx_forT_by (n12.h.t (n12.b.t hS)) (fun i σ H' => ∃ (s : RS) (cmds f : List Int) (ml' : Addr) (y3 : Option V), σ = [some mv, some (.ref ev), some (.ref a), y3] ∧ Nx [] B H B1 H' ∧ H ml' = none ∧ MgS K mg tbl wn n B1 H' a g wl cl ml' pl s cmds ∧ RSOk n s ∧ goes tbl wn s0 [0] es = goes tbl wn s f (es.drop i) ∧ s.way.length ≤ i + 1 ∧ s.plain.length ≤ 102 * i ∧ s.marks.length ≤ i ∧ f.length = i + 1) ?_ (fun i σ H' _ p => ?_) (fun i x σ H3 hx p => ?_) (fun σ H3 p => ?_)
    · exact ⟨s0, [], [0], ml, _, rfl, n12, hml, S2, s0_ok h0, rfl, by simp [s0], by simp [s0], by simp [s0], rfl⟩
    · obtain ⟨_, _, _, _, _, _, n, _⟩ := p
      exact n.h.t (n.b.t hS)
    · obtain ⟨s, cmds, f, ml', y3, rfl, n3, hml3, S3, ok3, ep, lw, lp, lm, lf⟩ := p
      obtain ⟨c, hc, rfl⟩ := iV_at hx
      have hi := (List.getElem?_eq_some_iff.mp hc).1
      have hdrop : es.drop i = c :: es.drop (i + 1) := by rw [List.drop_eq_getElem_cons hi, (List.getElem?_eq_some_iff.mp hc).2]
      rw [hdrop] at ep
      simp only [goes] at ep
      refine sx_gname ?_
      walk_at "st"
      have i3 := S3.i
      have e3 := S3.G.e
      have eh3 : Ex H3 H3 := Ex.refl H3
      clear i1 eh1
      walk_at "sx"
      refine ⟨tbl, wn, n, B1, a, g, wl, cl, ml', pl, s, cmds, c, rfl, S3, ok3, by omega, by omega, by omega, fun hn H4 n4 => ?_, fun s' hs H4 ml4 cmds' n4 al hml4 S4 => ?_⟩
      · walk_at "sx"
        refine ifT rfl ?_
        walk_at "sx"
        rw [hn] at ep
        exact k B1 H4 .non (n3.tr n4) (by rw [ep]; exact .non)
      · walk_at "sx"
        refine ifF rfl ?_
        rw [hs] at ep
        have n34 : Nx [] B H B1 H4 := go2 n3 n4 (fun b hb => by
          simp only [List.mem_cons, List.not_mem_nil, or_false] at hb
          rcases hb with rfl | rfl | rfl | rfl | rfl
          · exact .inr ha
          · exact .inr hwl
          · exact .inr hcl
          · exact .inr hml3
          · exact .inr hpl) (fun b hb => by simp at hb)
        have hm4 : H ml4 = none := by
          rcases hml4 with h | h
          · rw [h]; exact hml3
          · exact n3.ex.free h
        have sl := stp_len hs
        have ok4 := stp_ok TT ok3 hs
        exact ⟨s', cmds', f ++ [lastI s'.way], ml4, _, rfl, n34, hm4, S4, ok4, ep, by omega, by omega, by omega, by simp [lf]⟩
    · obtain ⟨s, cmds, f, ml', y3, rfl, n3, hml3, S3, ok3, ep, lw, lp, lm, lf⟩ := p
      rw [iV_len, List.drop_length] at ep
      have i3 := S3.i
      have eh3 : Ex H3 H3 := Ex.refl H3
      clear i1 eh1
      walk_at "sx"
      refine ⟨pl, _, rfl, S3.mp.sq, fun l o hl to => ?_⟩
      exact k _ _ _ (n3.tr (Nx.new S3.G.e hl)) (by rw [ep]; exact fz_dp S3.G.e hl (ints_d s.plain))
end
end C
namespace C
open PySem L2 G
section
variable {P : Program} {w : World} {K : PySem.W.Frag} {mg : Str → Option Value} {base : Heap}
/-! ### a letter by its number -/
theorem ok_law_letter (T : Txt w K mg) : Has P w K mg base "_law_letter" s_law_letter 1 ["number"] (fun vs H Q _ => ∃ i : Nat, vs = [.int (i : Int)] ∧ i < 16 ∧ ∀ s, s.length = 1 → Q (.str s) H) := by
  refine has_mk T.d_law_letter sc_law_letter (fun _ _ _ _ _ _ us hl => match us, hl with | [_], _ => rfl) (fun vs H Q E h => ?_) (fun f cdv A outer s H vs Q E hr h => ?_)
  · obtain ⟨_, rfl, _⟩ := h
    rfl
  · obtain ⟨i, rfl, hi, k⟩ := h
    refine ⟨_, (pss_one (ps_ret (pe_ix ix_str pe_str (pv 0) (fun _ _ => rfl)))), ?_⟩
    walk_at "go"
    have hl : (("abcdefghijklmnop" : Str)).cps.toList.length = 16 := by decide +kernel
    have hi' : i < (("abcdefghijklmnop" : Str)).cps.toList.length := by omega
    refine ⟨_, _, _, rfl, rfl, by decide +kernel, atI_nat (List.getElem?_eq_getElem hi'), ?_⟩
    exact k _ rfl
end
end C
namespace C
open PySem L2 G
section
variable {P : Program} {w : World} {K : PySem.W.Frag} {mg : Str → Option Value} {base : Heap}
/-! ### machines that let all -/
structure ColsOk (cols : List (List Int)) (n : Nat) : Prop where
  ne : cols ≠ []
  c : ∀ c ∈ cols, c.length = n ∧ ∀ x ∈ c, 0 ≤ x ∧ x < (n : Int)
def tblOf (cols : List (List Int)) (n : Nat) : List (List Int) := (List.range n).map fun s => cols.map fun c => c.getD s 0
def colsD (cols : List (List Int)) : List PyData := cols.map fun c => .list (iD c)
def spAllLet (K : PySem.W.Frag) (mg : Str → Option Value) : Sp := fun vs H Q _ => ∃ (B : Hp) (d l : Addr) (most hands : Int), vs = [.ref d, .int most, .int hands] ∧ Ex B H ∧ Deal B H d l ∧ 2 ≤ most ∧ most ≤ 8 ∧ 1 ≤ hands ∧ hands ≤ 6 ∧
  ∀ B' H' p mv cv kv (cols : List (List Int)) (n : Nat) (ks : List PyData), Nx [d, l] B H B' H' → Deal B' H' d l → SqT K B' p [mv, cv, kv] → Dp K B' cv (.list (colsD cols)) → ColsOk cols n → 2 ≤ cols.length → cols.length ≤ 10 → Dp K B' kv (.list ks) → MachD K mg B' mv (tblOf cols n) cols.length → 2 ≤ n → n ≤ 10 → Q (.ref p) H'
theorem col_of {cols : List (List Int)} {n : Nat} (h : ColsOk cols n) {c : List Int} (hc : c.length = n ∧ ∀ x ∈ c, 0 ≤ x ∧ x < (n : Int)) : ColsOk (cols ++ [c]) n := ⟨by simp, fun x hx => by
  rcases List.mem_append.mp hx with z | z
  · exact h.c x z
  · rw [List.mem_singleton.mp z]; exact hc⟩
theorem colsD_snoc (cols : List (List Int)) (c : List Int) : colsD (cols ++ [c]) = colsD cols ++ [.list (iD c)] := by simp [colsD]
theorem ok_law_all_let (T : Txt w K mg) : Has P w K mg base "_law_all_let" s_law_all_let 3 ["deal", "most", "hands"] (spAllLet K mg) := by
  refine has_mk T.d_law_all_let sc_law_all_let (fun _ _ _ _ _ _ us hl => match us, hl with | [_, _, _], _ => rfl) (fun vs H Q E h => ?_) (fun f cdv A outer s' H vs Q E hr h => ?_)
  · obtain ⟨_, _, _, _, _, rfl, _⟩ := h
    rfl
  · obtain ⟨B, d, l, most, hands, rfl, e, hD, m2, m8, h1, h6, k⟩ := h
    refine ⟨_, (pss_cons (ps_asg (pe_tup (pa_cons (pe_op op_add pe_int (pe_callH (ok_law_any T) hr (by rfl) (pa_cons (pv 0) (pa_cons (pe_op op_sub (pv 1) pe_int) pa_nil)))) (pa_cons (pe_op op_add pe_int (pe_callH (ok_law_any T) hr (by rfl) (pa_cons (pv 0) (pa_cons (pv 2) pa_nil)))) pa_nil))) (pg_tup (by rfl) (pgs_cons (pg_name (i := 3) sc_law_all_let.nd rfl (.inr rfl)) (pgs_cons (pg_name (i := 4) sc_law_all_let.nd rfl (.inl rfl)) pgs_nil))))
      (pss_cons (ps_set (i := 5) sc_law_all_let.nd rfl (.inr rfl) (pe_lst (pa_cons (pe_lc (own := [("state", 6)]) (g := (gName 6)) rfl sc_law_all_let.nd (pi_range1 (by rfl) T.b_range (pa_cons (pv 3) pa_nil)) (blkOk_by (own := [("state", 6)]) (N := ["deal", "most", "hands", "many", "width", "columns", "state", "turn", "sort", "column", "kinds", "names", "commands", "at", "table"]) (sc := defScope s_law_all_let) (by decide +kernel)) (fun _ _ _ _ _ => pg_name (i := 6) sc_law_all_let.nd rfl (.inl rfl)) (fun _ _ _ _ _ => pts_nil) (fun _ _ _ _ _ => (pe_op op_mod (pe_callTy cl_int (by rfl) T.b_int (by decide +kernel) (pa_cons (pe_op op_add (pv 6) pe_int) pa_nil)) (pv 3)))) pa_nil)))
      (pss_cons (ps_for PassesOwn.never rfl (pi_range1 (by rfl) T.b_range (pa_cons (pv 4) pa_nil)) (pg_name (i := 7) sc_law_all_let.nd rfl (.inl rfl))
      (pss_cons (ps_set (i := 8) sc_law_all_let.nd rfl (.inl rfl) (pe_callH (ok_law_any T) hr (by rfl) (pa_cons (pv 0) (pa_cons pe_int pa_nil))))
      (G.pss_cut (ps_set (i := 9) sc_law_all_let.nd rfl (.inl rfl) (pe_ifExp (pt_cmpR op_lt (pv 8) pe_int (nomark _)) (pe_callH (ok_law_mixed T) hr (by rfl) (pa_cons (pv 0) (pa_cons (pe_listRg rfl (by rfl) T.b_list (prg_1 (by rfl) T.b_range (pv 3))) pa_nil))) (pe_lc (own := [("state", 6)]) (g := (gName 6)) rfl sc_law_all_let.nd (pi_range1 (by rfl) T.b_range (pa_cons (pv 3) pa_nil)) (blkOk_by (own := [("state", 6)]) (N := ["deal", "most", "hands", "many", "width", "columns", "state", "turn", "sort", "column", "kinds", "names", "commands", "at", "table"]) (sc := defScope s_law_all_let) (by decide +kernel)) (fun _ _ _ _ _ => pg_name (i := 6) sc_law_all_let.nd rfl (.inl rfl)) (fun _ _ _ _ _ => pts_nil) (fun _ _ _ _ _ => (pe_callH (ok_law_any T) hr (by rfl) (pa_cons (pv 0) (pa_cons (pv 3) pa_nil)))))))
      (pss_one (ps_expr (pe_bm PySem.F.plainAttrs_list PySem.F.slot_list_append PySem.F.type_list_append mt_append (pv 5) (pa_cons (pe_ifExp (pt_cmpR op_eq (pv 8) pe_int (nomark _)) (pe_ix ix_list (pv 5) (pe_op op_sub pe_int pe_int) (fun _ _ => rfl)) (pv 9)) pa_nil)))))))
      (pss_cons (ps_setLc (i := 10) (own := [("column", 9)]) (g := (gName 9)) rfl sc_law_all_let.nd rfl rfl (sw_true rfl rfl rfl (by decide +kernel)) (pi_list (pv 5)) (blkOk_by (own := [("column", 9)]) (N := ["deal", "most", "hands", "many", "width", "columns", "state", "turn", "sort", "column", "kinds", "names", "commands", "at", "table"]) (sc := defScope s_law_all_let) (by decide +kernel)) (fun _ _ _ _ _ => pg_name (i := 9) sc_law_all_let.nd rfl (.inl rfl)) (fun _ _ _ _ _ => pts_nil) (fun _ _ _ _ _ => (pe_callH (ok_law_of T) hr (by rfl) (pa_cons (pv 0) (pa_cons (pe_lst (pa_cons pe_str (pa_cons pe_str (pa_cons pe_str pa_nil)))) pa_nil)))))
      (pss_cons (ps_par (i := 11) (j := 12) (by rfl) sc_law_all_let.nd rfl rfl (by decide) rfl rfl (pa_cons (pe_lc (own := [("state", 6)]) (g := (gName 6)) rfl sc_law_all_let.nd (pi_range1 (by rfl) T.b_range (pa_cons (pv 3) pa_nil)) (blkOk_by (own := [("state", 6)]) (N := ["deal", "most", "hands", "many", "width", "columns", "state", "turn", "sort", "column", "kinds", "names", "commands", "at", "table"]) (sc := defScope s_law_all_let) (by decide +kernel)) (fun _ _ _ _ _ => pg_name (i := 6) sc_law_all_let.nd rfl (.inl rfl)) (fun _ _ _ _ _ => pts_nil) (fun _ _ _ _ _ => (pe_callH (ok_law_letter T) hr (by rfl) (pa_cons (pv 6) pa_nil)))) (pa_cons (pe_lc (own := [("at", 13)]) (g := (gName 13)) rfl sc_law_all_let.nd (pi_range1 (by rfl) T.b_range (pa_cons (pe_callB cl_len (by rfl) T.b_len (by decide +kernel) (pa_cons (pv 5) pa_nil)) pa_nil)) (blkOk_by (own := [("at", 13)]) (N := ["deal", "most", "hands", "many", "width", "columns", "state", "turn", "sort", "column", "kinds", "names", "commands", "at", "table"]) (sc := defScope s_law_all_let) (by decide +kernel)) (fun _ _ _ _ _ => pg_name (i := 13) sc_law_all_let.nd rfl (.inl rfl)) (fun _ _ _ _ _ => pts_nil) (fun _ _ _ _ _ => (pe_op op_addS pe_str (pe_callH (ok_law_letter T) hr (by rfl) (pa_cons (pv 13) pa_nil))))) pa_nil)) (by rfl))
      (pss_cons (ps_set (i := 14) sc_law_all_let.nd rfl (.inl rfl) (pe_callTy cl_tupleF (by rfl) T.b_tuple (by decide +kernel) (pa_cons (pe_lc (own := [("state", 6)]) (g := (gName 6)) rfl sc_law_all_let.nd (pi_range1 (by rfl) T.b_range (pa_cons (pv 3) pa_nil)) (blkOk_by (own := [("state", 6)]) (N := ["deal", "most", "hands", "many", "width", "columns", "state", "turn", "sort", "column", "kinds", "names", "commands", "at", "table"]) (sc := defScope s_law_all_let) (by decide +kernel)) (fun _ _ _ _ _ => pg_name (i := 6) sc_law_all_let.nd rfl (.inr rfl)) (fun _ _ _ _ _ => pts_nil) (fun _ _ _ _ _ => (pe_callTy (G.k_tupleF (K := K) rfl) (by rfl) T.b_tuple (by decide +kernel) (pa_cons (by exact pe_lc (own := [("column", 9)]) (g := (gName 9)) (by rfl) (by exact sc_law_all_let.nd) (G.k_pil (K := K) rfl (pv 5)) (by exact blkOk_by (by kernel_rfl)) (fun _ _ _ _ _ => pg_name (i := 9) sc_law_all_let.nd rfl (.inl rfl)) (fun _ _ _ _ _ => pts_nil) (fun _ _ _ _ _ => (pe_ix (G.k_ixL (K := K) rfl) (pv 9) (pv 6) (fun _ _ => rfl)))) pa_nil)))) pa_nil)))
      (pss_one (ps_ret (pe_tup (pa_cons (pe_makeH (ok_Machine___init__ T) T.c_Machine hr (by rfl) (pa_cons (pe_callTy cl_tupleF (by rfl) T.b_tuple (by decide +kernel) (pa_cons (pv 11) pa_nil)) (pa_cons (pe_callTy cl_tupleF (by rfl) T.b_tuple (by decide +kernel) (pa_cons (pv 11) pa_nil)) (pa_cons pe_int (pa_cons (pe_callTy cl_tupleF (by rfl) T.b_tuple (by decide +kernel) (pa_cons (pv 12) pa_nil)) (pa_cons (pe_callTy cl_tupleF (by rfl) T.b_tuple (by decide +kernel) (pa_cons (pv 10) pa_nil)) (pa_cons (pv 14) pa_nil))))))) (pa_cons (pv 5) (pa_cons (pv 10) pa_nil)))))))))))), ?_⟩
    walk_at "go"
    refine ⟨B, d, l, _, rfl, e, hD, by omega, by omega, fun B1 H1 r n1 D1 r0 r1 => ?_⟩
    walk_at "sx"
    refine ⟨B1, d, l, _, rfl, n1.h, D1, by omega, by omega, fun B2 H2 t n2 D2 t0 t1 => ?_⟩
    have w2 : Own [d, l] B H B2 H2 [] := ((Own.begin e hD.in).upM n1 D1.in).upM n2 D2.in
    obtain ⟨n, hn⟩ : ∃ n : Nat, 2 + r = (n : Int) := ⟨(2 + r).toNat, by omega⟩
    obtain ⟨wd, hwd⟩ : ∃ wd : Nat, 1 + t = (wd : Int) := ⟨(1 + t).toNat, by omega⟩
    walk_at "sx"
    rw [hn, hwd]
    refine sx_newT (K := K) w2.h (.cons (.int _) (.cons (.int _) .nil)) (by simp) fun p3 B3 H3 hp3 n3 d3 => ?_
    have w3 := w2.up n3
    have D3 := D2.up n3
    refine sx_gtup2 d3 n3.h fun v1 v2 hv1 hv2 => ?_
    cases Dp.int_v hv1
    cases Dp.int_v hv2
    clear hv1 hv2 d3
    walk_at "st"
    walk_at "sx"
    refine sx_lcR_by (by omega) (fun C i H' => ∃ xs, Own [d, l] B H B3 H' [(C, iV xs)] ∧ Deal B3 H' d l ∧ xs.length = i ∧ ∀ x ∈ xs, 0 ≤ x ∧ x < (n : Int)) (fun C hC => ?_) (fun C i H4 hi p => ?_) (fun C H4 p => ?_)
    · exact ⟨[], w3.lc0 hC, D3.up (Nx.own (M := []) w3.h hC), rfl, by simp⟩
    · obtain ⟨xs, w4, D4, lx, bx⟩ := p
      walk_at "st"
      refine G.sx_gname ?_
      walk_at "st"
      refine ⟨trivial, ?_⟩
      walk_at "sx"
      refine iteT ?_
      walk_at "sx"
      have oC := w4.o _ (List.mem_singleton.mpr rfl)
      have oC2 : C ≠ d ∧ C ≠ l := by simpa using oC.2
      refine ⟨_, (w4.mu 0 rfl).h, sz_lt (by rw [iV_len]; omega), xs ++ [((i : Int) + 1) % (n : Int)], by simpa [iV] using w4.grow 0 rfl (y := .int (((i : Int) + 1) % (n : Int))), D4.up (w4.gn 0 rfl) (by simp [oC2.1.symm, oC2.2.symm]), by simp [lx], fun x hx => ?_⟩
      rcases List.mem_append.mp hx with z | z
      · exact bx x z
      · rw [List.mem_singleton] at z
        subst z
        exact ⟨Int.emod_nonneg _ (by omega), Int.emod_lt_of_pos _ (by omega)⟩
    · obtain ⟨c0, w4, D4, lx, bx⟩ := p
      have m4 := w4.mu 0 rfl
      have oC := w4.o _ (List.mem_singleton.mpr rfl)
      have oC2 : C ≠ d ∧ C ≠ l := by simpa using oC.2
      have w5 := w4.frz 0 rfl
      have dC := m4.frzL (ints_d (K := K) (B := B3) c0)
      have D5 := D4.frzO (xs := iV c0) oC2
      walk_at "sx"
      refine sx_newM w5.h (by simp) fun CL H6 hCL n6 m6 => ?_
      have w6 := w5.add hCL n6 m6
      have D6 := D5.up n6
      walk_at "sx"
      walk_at "st"
      walk_at "sx"
      have hcl0 : H CL = none := w6.free 0 rfl
      have oL := w6.o _ (List.mem_singleton.mpr rfl)
      have oL2 : CL ≠ d ∧ CL ≠ l := by simpa using oL.2
      refine sx_forR_by (by omega) (fun i σ H' => ∃ (B' : Hp) (xs : List V) (cols : List (List Int)) (y6 y7 y8 y9 y10 y11 y12 y13 y14 : Option V), σ = [some (.ref d), some (.int most), some (.int hands), some (.int (n : Int)), some (.int (wd : Int)), some (.ref CL), y6, y7, y8, y9, y10, y11, y12, y13, y14] ∧ Own [d, l] B H B' H' [(CL, xs)] ∧ Deal B' H' d l ∧ DpAll K B' xs (colsD cols) ∧ ColsOk cols n ∧ cols.length = i + 1) ?_ (fun i σ H7 hi p => ?_) (fun σ H7 p => ?_)
      · exact ⟨_, _, [c0], _, _, _, _, _, _, _, _, _, rfl, w6, D6, .cons dC .nil, ⟨by simp, fun c hc => by rw [List.mem_singleton] at hc; subst hc; exact ⟨lx, bx⟩⟩, rfl⟩
      · clear w6 D6 m6 n6 hCL w5 D5 dC m4 w4 D4
        obtain ⟨B7, xs, cols, y6, y7, y8, y9, y10, y11, y12, y13, y14, rfl, w7, D7, d7, ok7, l7⟩ := p
        refine sx_gname ?_
        walk_at "st"
        walk_at "sx"
        refine ⟨B7, d, l, 4, rfl, w7.h, D7, by decide, by decide, fun B8 H8 so n8 D8 s0' s1' => ?_⟩
        have w8 := w7.upM n8 D8.in
        have d8 := Dps.up n8.b d7
        walk_at "sx"
        walk_at "st"
        refine G.sx_cut (fun σ H' => ∃ (B' : Hp) (C : Addr) (c : List Int) (y6 y10 y11 y12 y13 y14 : Option V), σ = [some (.ref d), some (.int most), some (.int hands), some (.int (n : Int)), some (.int (wd : Int)), some (.ref CL), y6, some (.int (i : Int)), some (.int so), some (.ref C), y10, y11, y12, y13, y14] ∧ Own [d, l] B H B' H' [(CL, xs)] ∧ Deal B' H' d l ∧ Ex B8 B' ∧ Dp K B' (.ref C) (.list (iD c)) ∧ c.length = n ∧ ∀ x ∈ c, 0 ≤ x ∧ x < (n : Int)) ?_ ?_
        · walk_at "sx"
          by_cases h2 : so < 2
          · refine ifT (dT h2) ?_
            walk_at "sx"
            refine sx_lstRgN (n := n) (by omega) w8.h fun p9 H9 hp9 n9 m9 => ?_
            have o9 := D8.off hp9
            have D9 := D8.up n9
            have w9 := w8.up n9
            walk_at "sx"
            refine ⟨B8, d, l, p9, _, rfl, n9.h, D9, m9.sq, o9.1, o9.2, by simp; omega, fun B10 H10 p10 ys n10 D10 hp10 m10 pm => ?_⟩
            obtain ⟨c, ec, lc, bc⟩ : ∃ c : List Int, ys = iV c ∧ c.length = n ∧ ∀ x ∈ c, 0 ≤ x ∧ x < (n : Int) := by
              have hy : ∀ y ∈ ys, ∃ j : Nat, j < n ∧ y = .int (j : Int) := fun y hy => by
                obtain ⟨j, hj, rfl⟩ := List.mem_map.mp (pm.mem_iff.mp hy)
                exact ⟨j, List.mem_range.mp hj, rfl⟩
              have ll := pm.length_eq
              rw [List.length_map, List.length_range] at ll
              clear pm m10
              refine ⟨ys.map fun v => match v with
                | .int i => i
                | _ => 0, ?_, by rw [List.length_map]; exact ll, fun x hx => ?_⟩
              · unfold iV
                rw [List.map_map]
                refine (List.map_id' ys).symm.trans (List.map_congr_left fun y hy' => ?_)
                obtain ⟨j, _, rfl⟩ := hy y hy'
                rfl
              · obtain ⟨y, hy', rfl⟩ := List.mem_map.mp hx
                obtain ⟨j, hj, rfl⟩ := hy y hy'
                exact ⟨by show (0 : Int) ≤ (j : Int); omega, by show (j : Int) < (n : Int); omega⟩
            subst ec
            have w10 := w9.addM hp10 n10 D10.in m10
            have w11 := w10.frz 1 rfl
            have o10 := D9.off hp10
            walk_at "sx"
            walk_at "st"
            exact ⟨_, p10, c, _, _, _, _, _, _, rfl, w11, D10.frzO o10, (n9.b.trans n10.b).trans (Ex.new m10.b), m10.frzL (ints_d c), lc, bc⟩
          · refine ifF (dF h2) ?_
            walk_at "sx"
            walk_at "st"
            refine sx_lcR_by (by omega) (fun C j H' => ∃ B' c, Own [d, l] B H B' H' [(CL, xs), (C, iV c)] ∧ Deal B' H' d l ∧ Ex B8 B' ∧ c.length = j ∧ ∀ x ∈ c, 0 ≤ x ∧ x < (n : Int)) (fun C hC => ?_) (fun C j H9 hj p => ?_) (fun C H9 p => ?_)
            · exact ⟨B8, [], w8.lc0 hC, D8.up (Nx.own (M := []) w8.h hC), Ex.refl _, rfl, by simp⟩
            · obtain ⟨B9, c, w9, D9, e89, lc, bc⟩ := p
              walk_at "st"
              refine G.sx_gname ?_
              walk_at "st"
              refine ⟨trivial, ?_⟩
              walk_at "sx"
              refine iteT ?_
              walk_at "sx"
              refine ⟨B9, d, l, _, rfl, w9.h, D9, by omega, by omega, fun B10 H10 x n10 D10 x0 x1 => ?_⟩
              have w10 := w9.upM n10 D10.in
              have oC := w10.o (C, iV c) (by simp)
              have oC2 : C ≠ d ∧ C ≠ l := by simpa using oC.2
              refine ⟨_, (w10.mu 1 rfl).h, sz_lt (by rw [iV_len]; omega), B10, c ++ [x], by simpa [iV] using w10.grow 1 rfl (y := .int x), D10.up (w10.gn 1 rfl) (by simp [oC2.1.symm, oC2.2.symm]), e89.trans n10.b, by simp [lc], fun z hz => ?_⟩
              rcases List.mem_append.mp hz with y | y
              · exact bc z y
              · rw [List.mem_singleton] at y
                subst y
                exact ⟨x0, x1⟩
            · obtain ⟨B9, c, w9, D9, e89, lc, bc⟩ := p
              have m9 := w9.mu 1 rfl
              have oC := w9.o (C, iV c) (by simp)
              have oC2 : C ≠ d ∧ C ≠ l := by simpa using oC.2
              walk_at "sx"
              walk_at "st"
              exact ⟨_, C, c, _, _, _, _, _, _, rfl, w9.frz 1 rfl, D9.frzO oC2, e89.trans (Ex.new m9.b), m9.frzL (ints_d c), lc, bc⟩
        · rintro σ H9 ⟨B9, C, c, y6, y10, y11, y12, y13, y14, rfl, w9, D9, e89, dC, lc, bc⟩
          have d9 := Dps.up e89 d8
          have m9 := w9.mu 0 rfl
          have l9 := Dps.len d9
          have lcd : (colsD cols).length = cols.length := by simp [colsD]
          walk_at "sx"
          by_cases h3 : so = 3
          · refine ifT (int_eqT h3) ?_
            walk_at "sx"
            obtain ⟨cs, cz, rfl⟩ := snoc_of ok7.ne
            rw [colsD_snoc] at d9
            obtain ⟨us, vz, rfl, dus, dvz⟩ := Dps.last d9
            refine sx_ixL m9.sq atI_end ?_
            walk_at "sx"
            refine sx_append m9 w9.h (by omega) fun H10 n10 m10 => ?_
            refine ⟨B9, _, cs ++ [cz] ++ [cz], _, _, _, _, _, _, _, _, _, rfl, w9.put 0 rfl n10 m10, D9.up n10 (by simp [oL2.1.symm, oL2.2.symm]), ?_, col_of ok7 (ok7.c cz (by simp)), by simp at l7 ⊢; omega⟩
            rw [colsD_snoc]
            exact Dps.app (by rw [colsD_snoc]; exact d9) (.cons dvz .nil)
          · refine ifF (int_eqF h3) ?_
            walk_at "sx"
            refine sx_append m9 w9.h (by omega) fun H10 n10 m10 => ?_
            refine ⟨B9, _, cols ++ [c], _, _, _, _, _, _, _, _, _, rfl, w9.put 0 rfl n10 m10, D9.up n10 (by simp [oL2.1.symm, oL2.2.symm]), ?_, col_of ok7 ⟨lc, bc⟩, by simp at l7 ⊢; omega⟩
            rw [colsD_snoc]
            exact Dps.app d9 (.cons dC .nil)
      · clear w6 D6 m6 n6 hCL w5 D5 dC m4 w4 D4
        obtain ⟨B7, xs, cols, y6, y7, y8, y9, y10, y11, y12, y13, y14, rfl, w7, D7, d7, ok7, l7⟩ := p
        have lcd : (colsD cols).length = cols.length := by simp [colsD]
        have lx7 := Dps.len d7
        rw [lcd] at lx7
        have m7 := w7.mu 0 rfl
        walk_at "sx"
        refine sx_lcL_by m7.sq (fun C j H' => ∃ B' ks, Own [d, l] B H B' H' [(CL, xs), (C, ks)] ∧ Deal B' H' d l ∧ Ex B7 B' ∧ ks.length = j ∧ ∃ ss : List PyData, DpAll K B' ks ss) (fun C hC => ?_) (fun C j H' _ p => ?_) (fun C j x H8 hj p => ?_) (fun C H8 p => ?_)
        · exact ⟨B7, [], w7.lc0 hC, D7.up (Nx.own (M := []) w7.h hC), Ex.refl _, rfl, [], .nil⟩
        · obtain ⟨B', ks, w', _⟩ := p
          exact (w'.mu 0 rfl).sq
        · obtain ⟨B8, ks, w8, D8, e78, lk, ss, dk⟩ := p
          have hj' := (List.getElem?_eq_some_iff.mp hj).1
          refine sx_gname ?_
          walk_at "st"
          refine ⟨trivial, ?_⟩
          walk_at "sx"
          refine iteT ?_
          walk_at "sx"
          refine sx_newM w8.h (by simp) fun p9 H9 hp9 n9 m9 => ?_
          have o9 := D8.off hp9
          have D9 := D8.up n9
          have w9 := w8.up n9
          walk_at "sx"
          refine ⟨B8, d, l, p9, _, rfl, n9.h, D9, m9.sq, o9.1, o9.2, by simp, by simp, fun B10 H10 q v n10 D10 hv => ?_⟩
          have w10 := w9.upM n10 D10.in
          obtain ⟨s, rfl⟩ : ∃ s, v = V.str s := by
            have hm := List.mem_of_getElem? hv
            simp only [List.mem_cons, List.not_mem_nil, or_false] at hm
            rcases hm with rfl | rfl | rfl
            · exact ⟨_, rfl⟩
            · exact ⟨_, rfl⟩
            · exact ⟨_, rfl⟩
          have oC := w10.o (C, ks) (by simp)
          have oC2 : C ≠ d ∧ C ≠ l := by simpa using oC.2
          refine ⟨_, (w10.mu 1 rfl).h, sz_lt (by omega), B10, ks ++ [.str s], w10.grow 1 rfl, D10.up (w10.gn 1 rfl) (by simp [oC2.1.symm, oC2.2.symm]), e78.trans n10.b, by simp [lk], ss ++ [.str s], ?_⟩
          exact Dps.app (Dps.up n10.b dk) (.cons (.str s) .nil)
        · obtain ⟨B8, ks, w8, D8, e78, lk, ss, dk⟩ := p
          have d8 := Dps.up e78 d7
          have hK0 : H C = none := w8.free 1 rfl
          walk_at "sx"
          walk_at "st"
          walk_at "sx"
          refine sx_lcR_by (by omega) (fun N j H' => ∃ ns, Own [d, l] B H B8 H' [(CL, xs), (C, ks), (N, ns)] ∧ Deal B8 H' d l ∧ ns.length = j ∧ ∃ ss : List PyData, DpAll K B8 ns ss) (fun N hN => ?_) (fun N j H9 hj p => ?_) (fun N H9 p => ?_)
          · exact ⟨[], w8.lc0 hN, D8.up (Nx.own (M := []) w8.h hN), rfl, [], .nil⟩
          · obtain ⟨ns, w9, D9, ln, ss', dn⟩ := p
            refine sx_gname ?_
            walk_at "st"
            refine ⟨trivial, ?_⟩
            walk_at "sx"
            refine iteT ?_
            walk_at "sx"
            refine ⟨j, rfl, by omega, fun s _ => ?_⟩
            have oN := w9.o (N, ns) (by simp)
            have oN2 : N ≠ d ∧ N ≠ l := by simpa using oN.2
            exact ⟨_, (w9.mu 2 rfl).h, sz_lt (by omega), ns ++ [.str s], w9.grow 2 rfl, D9.up (w9.gn 2 rfl) (by simp [oN2.1.symm, oN2.2.symm]), by simp [ln], ss' ++ [.str s], Dps.app dn (.cons (.str s) .nil)⟩
          · obtain ⟨ns, w9, D9, ln, ss', dn⟩ := p
            have m9 := w9.mu 0 rfl
            walk_at "sx"
            refine sx_lcR_by (n := xs.length) (by omega) (fun M j H' => ∃ ms, Own [d, l] B H B8 H' [(CL, xs), (C, ks), (N, ns), (M, ms)] ∧ Deal B8 H' d l ∧ ms.length = j ∧ ∃ ss : List PyData, DpAll K B8 ms ss) (fun M hM => ?_) (fun M j H10 hj p => ?_) (fun M H10 p => ?_)
            · exact ⟨[], w9.lc0 hM, D9.up (Nx.own (M := []) w9.h hM), rfl, [], .nil⟩
            · obtain ⟨ms, w10, D10, lm, ss2, dm⟩ := p
              refine sx_gname ?_
              walk_at "st"
              refine ⟨trivial, ?_⟩
              walk_at "sx"
              refine iteT ?_
              walk_at "sx"
              refine ⟨j, rfl, by omega, fun s hs => ?_⟩
              have oM := w10.o (M, ms) (by simp)
              have oM2 : M ≠ d ∧ M ≠ l := by simpa using oM.2
              refine sx_addS (by have : (("go" : Str)).length = 2 := by decide +kernel
                                 omega) ?_
              exact ⟨_, (w10.mu 3 rfl).h, sz_lt (by omega), ms ++ [.str _], w10.grow 3 rfl, D10.up (w10.gn 3 rfl) (by simp [oM2.1.symm, oM2.2.symm]), by simp [lm], ss2 ++ [.str _], Dps.app dm (.cons (.str _) .nil)⟩
            · obtain ⟨ms, w10, D10, lm, ss2, dm⟩ := p
              walk_at "sx"
              walk_at "st"
              walk_at "sx"
              refine sx_lcR_by (by omega) (fun R s H' => ∃ B' rs, Own [d, l] B H B' H' [(CL, xs), (C, ks), (N, ns), (M, ms), (R, rs)] ∧ Deal B' H' d l ∧ Ex B8 B' ∧ DpAll K B' rs ((List.range s).map fun s => .tuple (iD (cols.map fun c => c.getD s 0)))) (fun R hR => ?_) (fun R s H11 hs p => ?_) (fun R H11 p => ?_)
              · exact ⟨B8, [], w10.lc0 hR, D10.up (Nx.own (M := []) w10.h hR), Ex.refl _, .nil⟩
              · obtain ⟨B11, rs, w11, D11, e811, d11⟩ := p
                have dc11 := Dps.up e811 d8
                have m11 := w11.mu 0 rfl
                have lr := Dps.len d11
                rw [List.length_map, List.length_range] at lr
                refine sx_gname ?_
                walk_at "st"
                refine ⟨trivial, ?_⟩
                walk_at "sx"
                refine iteT ?_
                walk_at "sx"
                refine sx_lcL_by m11.sq (fun U j H' => ∃ us, Own [d, l] B H B11 H' [(CL, xs), (C, ks), (N, ns), (M, ms), (R, rs), (U, iV us)] ∧ Deal B11 H' d l ∧ us = (cols.take j).map fun c => c.getD s 0) (fun U hU => ?_) (fun U j H' _ p => ?_) (fun U j x H12 hj p => ?_) (fun U H12 p => ?_)
                · exact ⟨[], w11.lc0 hU, D11.up (Nx.own (M := []) w11.h hU), rfl⟩
                · obtain ⟨us, w', _⟩ := p
                  exact (w'.mu 0 rfl).sq
                · obtain ⟨us, w12, D12, eu⟩ := p
                  obtain ⟨dv, hdv, hx⟩ := Dps.got dc11 hj
                  unfold colsD at hdv
                  rw [List.getElem?_map] at hdv
                  obtain ⟨c, hc, rfl⟩ : ∃ c, cols[j]? = some c ∧ PyData.list (iD c) = dv := by
                    cases z : cols[j]? with
                    | none => rw [z] at hdv; cases hdv
                    | some c => rw [z] at hdv; exact ⟨c, rfl, Option.some.inj hdv⟩
                  have hcc := ok7.c c (List.mem_of_getElem? hc)
                  have hcj := (List.getElem?_eq_some_iff.mp hc).1
                  refine sx_gname ?_
                  walk_at "st"
                  refine ⟨trivial, ?_⟩
                  walk_at "sx"
                  refine iteT ?_
                  walk_at "sx"
                  have hsc : s < c.length := by omega
                  refine sx_ixLd (d := .int (c.getD s 0)) hx w12.h (atI_nat (by
                    unfold iD
                    rw [List.getElem?_map, List.getElem?_eq_getElem hsc]
                    simp [List.getD, List.getElem?_eq_getElem hsc])) fun v hv => ?_
                  cases Dp.int_v hv
                  have oU := w12.o (U, iV us) (by simp)
                  have oU2 : U ≠ d ∧ U ≠ l := by simpa using oU.2
                  have lu : us.length ≤ j := by rw [eu, List.length_map, List.length_take]; omega
                  refine ⟨_, (w12.mu 5 rfl).h, sz_lt (by rw [iV_len]; omega), us ++ [c.getD s 0], by simpa [iV] using w12.grow 5 rfl (y := .int (c.getD s 0)), D12.up (w12.gn 5 rfl) (by simp [oU2.1.symm, oU2.2.symm]), ?_⟩
                  rw [List.take_add_one, hc, List.map_append, eu]
                  rfl
                · obtain ⟨us, w12, D12, eu⟩ := p
                  rw [show xs.length = cols.length by omega, List.take_length] at eu
                  subst eu
                  walk_at "sx"
                  refine sx_tupL w12.h (w12.mu 5 rfl).sq (ints_d _) fun p13 B13 H13 hp13 n13 d13 => ?_
                  have w13 := (w12.drop1 5).up n13
                  have D13 := D12.up n13
                  have oR := w13.o (R, rs) (by simp)
                  have oR2 : R ≠ d ∧ R ≠ l := by simpa using oR.2
                  refine ⟨_, (w13.mu 4 rfl).h, sz_lt (by omega), B13, rs ++ [.ref p13], w13.grow 4 rfl, D13.up (w13.gn 4 rfl) (by simp [oR2.1.symm, oR2.2.symm]), e811.trans n13.b, ?_⟩
                  rw [List.range_succ, List.map_append]
                  exact Dps.app (Dps.up n13.b d11) (.cons d13 .nil)
              · obtain ⟨B11, rs, w11, D11, e811, d11⟩ := p
                walk_at "sx"
                refine sx_tupL w11.h (w11.mu 4 rfl).sq d11 fun pt B12 H12 hpt n12 dt => ?_
                have w12 := w11.up n12
                have D12 := D11.up n12
                have e812 := e811.trans n12.b
                walk_at "sx"
                walk_at "st"
                walk_at "sx"
                refine sx_tupL w12.h (w12.mu 2 rfl).sq (Dps.up e812 dn) fun pa B13 H13 hpa n13 da => ?_
                have w13 := w12.up n13
                walk_at "sx"
                refine sx_tupL w13.h (w13.mu 2 rfl).sq (Dps.up (e812.trans n13.b) dn) fun pb B14 H14 hpb n14 db => ?_
                have w14 := w13.up n14
                walk_at "sx"
                refine sx_tupL w14.h (w14.mu 3 rfl).sq (Dps.up (e812.trans (n13.b.trans n14.b)) dm) fun pc B15 H15 hpc n15 dc => ?_
                have w15 := w14.up n15
                walk_at "sx"
                refine sx_tupL w15.h (w15.mu 1 rfl).sq (Dps.up (e812.trans (n13.b.trans (n14.b.trans n15.b))) dk) fun pd B16 H16 hpd n16 dd => ?_
                have w16 := w15.up n16
                have D16 := (((D12.up n13).up n14).up n15).up n16
                walk_at "sx"
                refine sx_mkF T.c_Machine w16.h (by rfl) fun a B17 H17 ha n17 ia => ?_
                have w17 := w16.up n17
                have D17 := D16.up n17
                have e817 := e812.trans (n13.b.trans (n14.b.trans (n15.b.trans (n16.b.trans n17.b))))
                have mCL := w17.mu 0 rfl
                have w18 := w17.frz 0 rfl
                have dCL := mCL.frzL (Dps.up e817 d8)
                have D18 := D17.frzO (xs := xs) oL2
                have mC := w18.mu 0 rfl
                have w19 := w18.frz 0 rfl
                have dC19 := mC.frzL (Dps.up (e817.trans (Ex.new mCL.b)) dk)
                have oC := w18.o (C, ks) (by simp)
                have oC2 : C ≠ d ∧ C ≠ l := by simpa using oC.2
                have D19 := D18.frzO (xs := ks) oC2
                walk_at "sx"
                refine ⟨by simp; decide, fun p20 hp20 => ?_⟩
                have n20 := Nx.new (M := []) (o := .tup [.ref a, .ref CL, .ref C]) w19.h hp20
                have w20 := w19.up n20
                have e1719 : Ex B17 (upd (upd B17 CL (.lst xs)) C (.lst ks)) := (Ex.new mCL.b).trans (Ex.new mC.b)
                have dt' := Dp.up (n13.b.trans (n14.b.trans (n15.b.trans (n16.b.trans (n17.b.trans (e1719.trans n20.b)))))) dt
                have dc' := Dp.up (n16.b.trans (n17.b.trans (e1719.trans n20.b))) dc
                refine k _ _ p20 (.ref a) (.ref CL) (.ref C) cols n ss w20.n (D19.up n20) (SqT.of upd_same) (Dp.up ((Ex.new mC.b).trans n20.b) dCL) ok7 (by omega) (by omega) (Dp.up n20.b dC19) ⟨a, _, _, _, _, _, ss2, rfl, (ia.up (e1719.trans n20.b)), dc', ?_, ?_⟩ (by omega) (by omega)
                · have := Dps.len dm
                  omega
                · unfold tblOf
                  rw [List.map_map]
                  exact dt'
end
end C
namespace C
open PySem L2 G
section
variable {P : Program} {w : World} {K : PySem.W.Frag} {mg : Str → Option Value} {base : Heap}
/-! ### the law's own run with marks -/
def lmD (o : Option (RS × List Int)) : PyData := match o with
  | none => .none
  | some (s, f) => .tuple [.tuple (iD f), .tuple (iD s.plain)]
def tblL (tbl : List (List Int)) : PyData := .list (tbl.map fun r => .list (iD r))
def spMarked (K : PySem.W.Frag) : Sp := fun vs H Q _ => ∃ B tv ev tbl wn n es, vs = [tv, .int ((wn : Nat) : Int), .ref ev] ∧ Ex B H ∧ Dp K B tv (tblL tbl) ∧ TblOk tbl wn n ∧ 0 < n ∧ SqL K H ev (iV es) ∧ es.length ≤ 100 ∧
  ∀ B' H' v, Nx [] B H B' H' → Dp K B' v (lmD (goes tbl wn s0 [0] es)) → Q v H'
def onI (f : Int → Bool) : V → Bool
  | .int i => f i
  | _ => false
theorem filt_on (f : Int → Bool) (l : List Int) : (iV l).filter (onI f) = iV (l.filter f) := by
  unfold iV
  induction l with
  | nil => rfl
  | cons a r ih =>
    rw [List.map_cons, List.filter_cons, List.filter_cons, ih]
    show (if f a = true then _ else _) = _
    cases f a <;> rfl
theorem ifTr2 {A B : Prop} (h : A) : if True then A else B := by rw [if_pos trivial]; exact h
theorem iV_snoc (l : List Int) (x : Int) : iV l ++ [.int x] = iV (l ++ [x]) := by simp [iV]
theorem iV_take (l : List Int) (k : Nat) : (iV l).take k = iV (l.take k) := by simp [iV]
theorem ok_law_marked (T : Txt w K mg) : Has P w K mg base "_law_marked" s_law_marked 1 ["table", "width", "events"] (spMarked K) := by
  refine has_mk T.d_law_marked sc_law_marked (fun _ _ _ _ _ _ us hl => match us, hl with | [_, _, _], _ => rfl) (fun vs H Q E h => ?_) (fun f cdv A outer s' H vs Q E hr h => ?_)
  · obtain ⟨_, _, _, _, _, _, _, rfl, _⟩ := h
    rfl
  · obtain ⟨B, tv, ev, tbl, wn, n, es, rfl, e, dt, TT, h0, hS, hz, k⟩ := h
    refine ⟨_, (pss_cons (ps_asg (pe_tup (pa_cons (pe_lst (pa_cons pe_int pa_nil)) (pa_cons (pe_lst pa_nil) (pa_cons (pe_lst pa_nil) (pa_cons (pe_lst (pa_cons pe_int pa_nil)) pa_nil))))) (pg_tup (by rfl) (pgs_cons (pg_name (i := 3) sc_law_marked.nd rfl (.inr rfl)) (pgs_cons (pg_name (i := 4) sc_law_marked.nd rfl (.inl rfl)) (pgs_cons (pg_name (i := 5) sc_law_marked.nd rfl (.inl rfl)) (pgs_cons (pg_name (i := 6) sc_law_marked.nd rfl (.inl rfl)) pgs_nil))))))
      (pss_cons (ps_for PassesOwn.never rfl (pi_list (pv 2)) (pg_name (i := 7) sc_law_marked.nd rfl (.inl rfl))
      (G.pss_cut (ps_if (pt_cmpR op_eq (pv 7) (pe_op op_sub pe_int pe_int) (nomark _))
      (pss_one (ps_expr (pe_bm PySem.F.plainAttrs_list PySem.F.slot_list_append PySem.F.type_list_append mt_append (pv 4) (pa_cons (pe_op op_sub (pe_callB cl_len (by rfl) T.b_len (by decide +kernel) (pa_cons (pv 3) pa_nil)) pe_int) pa_nil))))
      (pss_one (ps_if (pt_cmpR op_eq (pv 7) (pe_op op_sub pe_int pe_int) (nomark _))
      (pss_cons (ps_if (pt_cmpR op_eq (pe_callB cl_len (by rfl) T.b_len (by decide +kernel) (pa_cons (pv 4) pa_nil)) pe_int (nomark _))
      (pss_one (ps_ret pe_non))
      pss_nil)
      (pss_cons (ps_set (i := 8) sc_law_marked.nd rfl (.inl rfl) (pe_bm0 PySem.F.plainAttrs_list PySem.F.slot_list_pop PySem.F.type_list_pop mt_pop (pv 4)))
      (pss_cons (ps_set (i := 5) sc_law_marked.nd rfl (.inl rfl) (pe_op op_cat (pv 5) (pe_op op_rep (pe_lst (pa_cons (pe_op op_sub pe_int pe_int) pa_nil)) (pe_op op_sub (pe_op op_sub (pe_callB cl_len (by rfl) T.b_len (by decide +kernel) (pa_cons (pv 3) pa_nil)) pe_int) (pv 8)))))
      (pss_one (ps_set (i := 3) sc_law_marked.nd rfl (.inr rfl) (pe_slice sl_list (pv 3) po_none (po_some (pe_op op_add (pv 8) pe_int))))))))
      (pss_one (ps_if (pt_cmpR op_eq (pv 7) (pe_op op_sub pe_int pe_int) (nomark _))
      (pss_cons (ps_if (pt_cmpR op_eq (pe_callB cl_len (by rfl) T.b_len (by decide +kernel) (pa_cons (pv 3) pa_nil)) pe_int (nomark _))
      (pss_one (ps_ret pe_non))
      pss_nil)
      (pss_cons (ps_expr (pe_bm0 PySem.F.plainAttrs_list PySem.F.slot_list_pop PySem.F.type_list_pop mt_pop (pv 3)))
      (pss_one (ps_expr (pe_bm PySem.F.plainAttrs_list PySem.F.slot_list_append PySem.F.type_list_append mt_append (pv 5) (pa_cons (pv 7) pa_nil))))))
      (pss_cons (ps_if (PW.pt (pw_or (pt_not (pt_chain op_le op_lt pe_int (pv 7) (pv 1))) (pw_or1 (pt_cmpR op_lt (pe_ix ix_list (pe_ix ix_list (pv 0) (pe_ix ix_list (pv 3) (pe_op op_sub pe_int pe_int) (fun _ _ => rfl)) (fun _ _ => rfl)) (pv 7) (fun _ _ => rfl)) pe_int (nomark _)))))
      (pss_one (ps_ret pe_non))
      pss_nil)
      (pss_cons (ps_expr (pe_bm PySem.F.plainAttrs_list PySem.F.slot_list_append PySem.F.type_list_append mt_append (pv 3) (pa_cons (pe_ix ix_list (pe_ix ix_list (pv 0) (pe_ix ix_list (pv 3) (pe_op op_sub pe_int pe_int) (fun _ _ => rfl)) (fun _ _ => rfl)) (pv 7) (fun _ _ => rfl)) pa_nil)))
      (pss_one (ps_expr (pe_bm PySem.F.plainAttrs_list PySem.F.slot_list_append PySem.F.type_list_append mt_append (pv 5) (pa_cons (pv 7) pa_nil)))))))))))
      (pss_cons (ps_setLc (i := 4) (own := [("mark", 9)]) (g := (gName 9)) rfl sc_law_marked.nd rfl rfl (sw_true rfl rfl rfl (by decide +kernel)) (pi_list (pv 4)) (blkOk_by (own := [("mark", 9)]) (N := ["table", "width", "events", "way", "marks", "plain", "found", "event", "goal", "mark"]) (sc := defScope s_law_marked) (by decide +kernel)) (fun _ _ _ _ _ => pg_name (i := 9) sc_law_marked.nd rfl (.inl rfl)) (fun _ _ _ _ _ => (pts_one (pt_cmpR op_lt (pv 9) (pe_callB (G.k_len (K := K) rfl) (by rfl) T.b_len (by decide +kernel) (pa_cons (pv 3) pa_nil)) (nomark _)))) (fun _ _ _ _ _ => (pv 9)))
      (pss_one (ps_expr (pe_bm PySem.F.plainAttrs_list PySem.F.slot_list_append PySem.F.type_list_append mt_append (pv 6) (pa_cons (pe_ix ix_list (pv 3) (pe_op op_sub pe_int pe_int) (fun _ _ => rfl)) pa_nil)))))))
      (pss_one (ps_ret (pe_tup (pa_cons (pe_callTy cl_tupleF (by rfl) T.b_tuple (by decide +kernel) (pa_cons (pv 6) pa_nil)) (pa_cons (pe_callTy cl_tupleF (by rfl) T.b_tuple (by decide +kernel) (pa_cons (pv 5) pa_nil)) pa_nil))))))), ?_⟩
    walk_at "go"
    have w0 : Own [] B H B H [] := Own.begin e (by simp)
    refine sx_newM w0.h (by simp) fun wl H1 hwl n1 m1 => ?_
    have w1 := w0.add hwl n1 m1
    walk_at "sx"
    refine sx_newM w1.h (by simp) fun ml H2 hml n2 m2 => ?_
    have w2 := w1.add hml n2 m2
    walk_at "sx"
    refine sx_newM w2.h (by simp) fun pl H3 hpl n3 m3 => ?_
    have w3 := w2.add hpl n3 m3
    walk_at "sx"
    refine sx_newM w3.h (by simp) fun fl H4 hfl n4 m4 => ?_
    have w4 := w3.add hfl n4 m4
    walk_at "sx"
    refine ⟨by simp; decide, fun p5 hp5 => ⟨p5, _, rfl, SqT.of upd_same, rfl, _, _, rfl, _, _, rfl, _, _, rfl, _, _, rfl, ?_⟩⟩
    have n5 : Nx [] B H4 B (upd H4 p5 (.tup [.ref wl, .ref ml, .ref pl, .ref fl])) := Nx.own w4.h hp5
    have w5 := w4.up n5
    have w5 : Own [] B H B _ [(wl, iV s0.way), (ml, iV s0.marks), (pl, iV s0.plain), (fl, iV [0])] := w5
    clear n5 w4 n4 m4 hfl w3 n3 m3 hpl w2 n2 m2 hml w1 n1 m1 hwl
    walk_at "sx"
    show gNil [] _ _ _
    refine ⟨rfl, ?_⟩
    walk_at "st"
    walk_at "sx"
    refine sx_forL_by (w5.n.sq hS (by simp)) (fun i σ H' => ∃ (wl ml pl : Addr) (s : RS) (f : List Int) (y7 y8 y9 : Option V), σ = [some tv, some (.int (wn : Int)), some (.ref ev), some (.ref wl), some (.ref ml), some (.ref pl), some (.ref fl), y7, y8, y9] ∧ Own [] B H B H' [(wl, iV s.way), (ml, iV s.marks), (pl, iV s.plain), (fl, iV f)] ∧ RSOk n s ∧ goes tbl wn s0 [0] es = goes tbl wn s f (es.drop i) ∧ s.way.length ≤ i + 1 ∧ s.plain.length ≤ 102 * i ∧ s.marks.length ≤ i ∧ f.length = i + 1) ?_ (fun i σ H' _ p => ?_) (fun i x σ H6 hx p => ?_) (fun σ H6 p => ?_)
    · exact ⟨wl, ml, pl, s0, [0], _, _, _, rfl, w5, s0_ok h0, rfl, by simp [s0], by simp [s0], by simp [s0], rfl⟩
    · obtain ⟨_, _, _, _, _, _, _, _, _, w', _⟩ := p
      exact w'.n.sq hS (by simp)
    · clear w5
      obtain ⟨wl, ml, pl, s, f, y7, y8, y9, rfl, w6, ok6, ep, lw, lp, lm, lf⟩ := p
      obtain ⟨c, hc, rfl⟩ := iV_at hx
      have hi := (List.getElem?_eq_some_iff.mp hc).1
      have hdrop : es.drop i = c :: es.drop (i + 1) := by rw [List.drop_eq_getElem_cons hi, (List.getElem?_eq_some_iff.mp hc).2]
      rw [hdrop] at ep
      simp only [goes] at ep
      have mw := w6.mu 0 rfl
      have mm := w6.mu 1 rfl
      have mp := w6.mu 2 rfl
      refine sx_gname ?_
      walk_at "st"
      refine G.sx_cut (fun σ H' => ∃ (wl ml pl : Addr) (way marks plain : List Int) (y8 y9 : Option V), σ = [some tv, some (.int (wn : Int)), some (.ref ev), some (.ref wl), some (.ref ml), some (.ref pl), some (.ref fl), some (.int c), y8, y9] ∧ Own [] B H B H' [(wl, iV way), (ml, iV marks), (pl, iV plain), (fl, iV f)] ∧ stp tbl wn s c = some ⟨way, cutM way.length marks, plain⟩ ∧ marks.length ≤ i + 1) ?_ ?_
      · walk_at "sx"
        by_cases h2 : c = -2
        · refine ifT (int_eqT (by omega)) ?_
          walk_at "sx"
          rw [iV_len]
          refine sx_appO w6 1 rfl (by rw [iV_len]; omega) fun H7 w7 _ => ?_
          refine ⟨wl, ml, pl, s.way, s.marks ++ [(s.way.length : Int) - 1], s.plain, _, _, rfl, by rw [← iV_snoc]; exact w7, ?_, by simp; omega⟩
          unfold stp
          rw [if_pos h2]
        · refine ifF (int_eqF (by omega)) ?_
          walk_at "sx"
          by_cases h3 : c = -3
          · refine ifT (int_eqT (by omega)) ?_
            walk_at "sx"
            by_cases hm : s.marks = []
            · refine ifT (int_eqT (by rw [hm]; rfl)) ?_
              walk_at "sx"
              have hs : stp tbl wn s c = none := by
                unfold stp
                rw [if_neg h2, if_pos h3, hm]
                rfl
              rw [hs] at ep
              exact k B H6 .non w6.n (by rw [ep]; exact .non)
            · obtain ⟨ms, gl, hms⟩ := snoc_of hm
              have hgm := ok6.mks gl (by rw [hms]; simp)
              refine ifF (int_eqF (by rw [iV_len, hms]; simp; omega)) ?_
              walk_at "sx"
              have w6' : Own [] B H B H6 [(wl, iV s.way), (ml, iV ms ++ [.int gl]), (pl, iV s.plain), (fl, iV f)] := by rw [iV_snoc, ← hms]; exact w6
              refine sx_popO w6' 1 rfl fun H7 w7 n7 => ?_
              have mw7 := w7.mu 0 rfl
              have mp7 := w7.mu 2 rfl
              clear mw mm mp
              walk_at "sx"
              walk_at "st"
              walk_at "sx"
              refine sx_newM w7.h (by simp) fun p8 H8 hp8 n8 m8 => ?_
              have w8 := w7.up n8
              have mw8 := w8.mu 0 rfl
              clear mw7
              walk_at "sx"
              rw [iV_len]
              refine ⟨p8, _, _, rfl, rfl, m8.h, by omega, by omega, sz_of (by show 1 * _ ≤ _; omega), fun p9 hp9 => ?_⟩
              have n9 : Nx [] B H8 B (upd H8 p9 (.lst (List.replicate ((s.way.length : Int) - 1 - gl).toNat [V.int (0 - 1)]).flatten)) := Nx.own w8.h hp9
              have m9 : Mu B (upd H8 p9 (.lst (List.replicate ((s.way.length : Int) - 1 - gl).toNat [V.int (0 - 1)]).flatten)) p9 (List.replicate ((s.way.length : Int) - 1 - gl).toNat [V.int (0 - 1)]).flatten := Mu.new w8.h hp9
              have er : (List.replicate ((s.way.length : Int) - 1 - gl).toNat [V.int (0 - 1)]).flatten = iV (List.replicate (s.way.length - 1 - gl.toNat) (-1)) := by
                rw [show ((s.way.length : Int) - 1 - gl).toNat = s.way.length - 1 - gl.toNat by omega]
                generalize s.way.length - 1 - gl.toNat = kk
                induction kk with
                | zero => rfl
                | succ kk ih =>
                  rw [List.replicate_succ, List.flatten_cons, ih, List.replicate_succ]
                  rfl
              rw [er] at m9 n9
              rw [er]
              have w9 := w8.up n9
              have mp9 := w9.mu 2 rfl
              refine sx_cat n9.h mp9.h m9.h (by rw [iV_len, iV_len, List.length_replicate]; omega) fun p10 H10 hp10 n10 m10 => ?_
              have w10 := w9.rep 2 hp10 n10 m10
              have mw10 := w10.mu 0 rfl
              clear mw8 mp7
              walk_at "sx"
              walk_at "st"
              walk_at "sx"
              rw [show gl + 1 = ((gl.toNat + 1 : Nat) : Int) by omega]
              refine sx_slL w10.h mw10.sq fun p11 H11 hp11 n11 m11 => ?_
              rw [cut_to, iV_take] at m11
              have w11 := w10.rep 0 hp11 n11 m11
              walk_at "sx"
              walk_at "st"
              refine ⟨p11, ml, p10, s.way.take (gl.toNat + 1), ms, s.plain ++ List.replicate (s.way.length - 1 - gl.toNat) (-1), _, _, rfl, by unfold iV; rw [List.map_append]; exact w11, ?_, by rw [hms] at lm; simp at lm; omega⟩
              unfold stp
              rw [if_neg h2, if_pos h3, hms]
              simp
          · refine ifF (int_eqF (by omega)) ?_
            walk_at "sx"
            by_cases h1 : c = -1
            · refine ifT (int_eqT (by omega)) ?_
              walk_at "sx"
              by_cases hl : s.way.length = 1
              · refine ifT (int_eqT (by rw [iV_len, hl]; rfl)) ?_
                walk_at "sx"
                have hs : stp tbl wn s c = none := by
                  unfold stp
                  rw [if_neg h2, if_neg h3, if_pos h1, if_pos hl]
                rw [hs] at ep
                exact k B H6 .non w6.n (by rw [ep]; exact .non)
              · refine ifF (int_eqF (by rw [iV_len]; omega)) ?_
                walk_at "sx"
                obtain ⟨ws, y, hws⟩ := snoc_of ok6.ne
                have w6' : Own [] B H B H6 [(wl, iV ws ++ [.int y]), (ml, iV s.marks), (pl, iV s.plain), (fl, iV f)] := by rw [iV_snoc, ← hws]; exact w6
                refine sx_popO w6' 0 rfl fun H7 w7 n7 => ?_
                have mp7 := w7.mu 2 rfl
                clear mp
                walk_at "sx"
                refine sx_appO w7 2 rfl (by rw [iV_len]; omega) fun H8 w8 n8 => ?_
                refine ⟨wl, ml, pl, ws, s.marks, s.plain ++ [c], _, _, rfl, by rw [← iV_snoc s.plain]; exact w8, ?_, by omega⟩
                unfold stp
                rw [if_neg h2, if_neg h3, if_pos h1, if_neg hl, hws, List.dropLast_concat, h1]
                simp
            · refine ifF (int_eqF (by omega)) ?_
              walk_at "sx"
              refine sx_chain ?_
              walk_at "sx"
              have hb := ok6.st _ (last_mem ok6.ne)
              by_cases hc0 : 0 ≤ c
              · refine ifT (dT hc0) ?_
                walk_at "sx"
                by_cases hcw : c < (wn : Int)
                · refine ifF (by rw [dT hcw]; rfl) ?_
                  obtain ⟨r, hr1, hr2, _, c1, c2⟩ := cell_at TT hb ⟨hc0, hcw⟩
                  have get : ∀ {H' : Hp} {Q : VK}, Ex B H' → (Q (.int (cell tbl (lastI s.way) c)) H') → ∀ (rQ : V → Hp → Prop), (∀ v, Dp K B v (.list (iD r)) → rIxL K v (.int c) H' Q) := fun e' q _ v dv => by
                    refine sx_ixLd (d := .int (cell tbl (lastI s.way) c)) dv e' ?_ fun u du => by cases Dp.int_v du; exact q
                    rw [show c = (c.toNat : Int) by omega]
                    refine atI_nat ?_
                    unfold iD
                    rw [List.getElem?_map, hr2, show ((c.toNat : Nat) : Int) = c by omega]
                    rfl
                  have rowAt : atI (tbl.map fun r => PyData.list (iD r)) (lastI s.way) = some (.list (iD r)) := by
                    rw [show lastI s.way = ((lastI s.way).toNat : Int) by omega]
                    exact atI_nat (by rw [List.getElem?_map, hr1]; rfl)
                  walk_at "sx"
                  refine sx_ixL mw.sq (at_last ok6.ne) ?_
                  refine sx_ixLd dt w6.h rowAt fun v7 d7 => ?_
                  walk_at "sx"
                  refine get w6.h ?_ (fun _ _ => True) v7 d7
                  walk_at "sx"
                  by_cases hneg : cell tbl (lastI s.way) c < 0
                  · refine ifT (dT hneg) ?_
                    have HS : stp tbl wn s c = none := by
                      unfold stp
                      rw [if_neg h2, if_neg h3, if_neg h1, if_neg (fun z => by omega)]
                    walk_at "sx"
                    rw [HS] at ep
                    exact k B H6 .non w6.n (by rw [ep]; exact .non)
                  · refine ifF (dF hneg) ?_
                    walk_at "sx"
                    refine sx_ixL mw.sq (at_last ok6.ne) ?_
                    refine sx_ixLd dt w6.h rowAt fun v8 d8 => ?_
                    walk_at "sx"
                    refine get w6.h ?_ (fun _ _ => True) v8 d8
                    walk_at "sx"
                    refine sx_appO w6 0 rfl (by rw [iV_len]; omega) fun H7 w7 n7 => ?_
                    have mp7 := w7.mu 2 rfl
                    clear mp
                    walk_at "sx"
                    refine sx_appO w7 2 rfl (by rw [iV_len]; omega) fun H8 w8 n8 => ?_
                    refine ⟨wl, ml, pl, s.way ++ [cell tbl (lastI s.way) c], s.marks, s.plain ++ [c], _, _, rfl, by rw [← iV_snoc, ← iV_snoc]; exact w8, ?_, by omega⟩
                    unfold stp
                    rw [if_neg h2, if_neg h3, if_neg h1, if_pos ⟨hc0, hcw, by omega⟩]
                    simp
                · refine ifT (by rw [dF hcw]; rfl) ?_
                  refine ifT rfl ?_
                  have HS : stp tbl wn s c = none := by
                    unfold stp
                    rw [if_neg h2, if_neg h3, if_neg h1, if_neg (fun z => hcw z.2.1)]
                  walk_at "sx"
                  rw [HS] at ep
                  exact k B H6 .non w6.n (by rw [ep]; exact .non)
              · refine ifF (dF hc0) ?_
                walk_at "sx"
                refine ifT rfl ?_
                refine ifT rfl ?_
                have HS : stp tbl wn s c = none := by
                  unfold stp
                  rw [if_neg h2, if_neg h3, if_neg h1, if_neg (fun z => hc0 z.1)]
                walk_at "sx"
                rw [HS] at ep
                exact k B H6 .non w6.n (by rw [ep]; exact .non)
      · rintro σ H7 ⟨wl, ml, pl, way, marks, plain, y8, y9, rfl, w7, hs, lmk⟩
        rw [hs] at ep
        have ok7 := stp_ok TT ok6 hs
        have sl := stp_len hs
        have m7 := w7.mu 0 rfl
        have mm7 := w7.mu 1 rfl
        clear mw mm mp
        walk_at "sx"
        refine sx_lcPure (onI fun i => decide (i < (way.length : Int))) id w7.h mm7.sq (by rw [iV_len]; omega) (fun x => by simp [wipe]) (fun x hx H8 R e8 h => ?_) (fun x hx _ H8 R e8 h => ?_) fun p8 H8 hp8 n8 m8 => ?_
        · obtain ⟨j, _, rfl⟩ := List.mem_map.mp hx
          walk_at "st"
          walk_at "sx"
          refine sx_lenL (e8 _ _ m7.h |> SqL.of) ?_
          rw [iV_len]
          walk_at "sx"
          exact h
        · walk_at "st"
          walk_at "sx"
          exact h
        · rw [List.map_id, filt_on] at m8
          have w8 := w7.rep 1 hp8 n8 m8
          have m80 := w8.mu 0 rfl
          clear m7 mm7
          walk_at "sx"
          walk_at "st"
          walk_at "sx"
          have mf8 := w8.mu 3 rfl
          walk_at "sx"
          refine sx_ixL m80.sq (at_last ok7.ne) ?_
          walk_at "sx"
          refine sx_appO w8 3 rfl (by rw [iV_len]; omega) fun H9 w9 n9 => ?_
          exact ⟨wl, p8, pl, _, f ++ [lastI way], _, _, _, rfl, by rw [← iV_snoc]; exact w9, ok7, ep, by omega, by omega, by omega, by simp [lf]⟩
    · obtain ⟨wl, ml, pl, s, f, y7, y8, y9, rfl, w6, ok6, ep, lw, lp, lm, lf⟩ := p
      rw [iV_len, List.drop_length] at ep
      walk_at "sx"
      refine sx_tupL w6.h (w6.mu 3 rfl).sq (ints_d f) fun p7 B7 H7 hp7 n7 d7 => ?_
      have w7 := w6.up n7
      walk_at "sx"
      refine sx_tupL w7.h (w7.mu 2 rfl).sq (ints_d s.plain) fun p8 B8 H8 hp8 n8 d8 => ?_
      have w8 := w7.up n8
      walk_at "sx"
      refine sx_newT (K := K) w8.h (.cons (Dp.up n8.b d7) (.cons d8 .nil)) (by simp) fun p9 B9 H9 hp9 n9 d9 => ?_
      exact k B9 H9 _ (w8.up n9).n (by rw [ep]; exact d9)
end
end C
namespace C
open PySem L2 G
section
variable {P : Program} {w : World} {K : PySem.W.Frag} {mg : Str → Option Value} {base : Heap}
/-! ### events as drawn -/
def spEvents (K : PySem.W.Frag) : Sp := fun vs H Q _ => ∃ (B : Hp) (d l : Addr) (tv : V) (tbl : List (List Int)) (wn n m : Nat), vs = [.ref d, tv, .int (wn : Int), .int (m : Int)] ∧ Ex B H ∧ Deal B H d l ∧ Dp K B tv (tblL tbl) ∧ TblOk tbl wn n ∧ 0 < n ∧ 0 < wn ∧ wn ≤ 20 ∧ (∀ s : Int, 0 ≤ s → s < (n : Int) → 0 ≤ cell tbl s 0) ∧ m ≤ 60 ∧
  ∀ B' H' p es s f, Nx [d, l] B H B' H' → Deal B' H' d l → H p = none → Mu B' H' p (iV es) → es.length = m → goes tbl wn s0 [0] es = some (s, f) → Q (.ref p) H'
theorem ok_law_mark_events (T : Txt w K mg) : Has P w K mg base "_law_mark_events" s_law_mark_events 3 ["deal", "table", "width", "many"] (spEvents K) := by
  refine has_mk T.d_law_mark_events sc_law_mark_events (fun _ _ _ _ _ _ us hl => match us, hl with | [_, _, _, _], _ => rfl) (fun vs H Q E h => ?_) (fun f cdv A outer s' H vs Q E hr h => ?_)
  · obtain ⟨_, _, _, _, _, _, _, _, rfl, _⟩ := h
    rfl
  · obtain ⟨B, d, l, tv, tbl, wn, n, m, rfl, e, hD, dt, TT, n0, w0', w20, free, mz, k⟩ := h
    refine ⟨_, (pss_cons (ps_set (i := 4) sc_law_mark_events.nd rfl (.inr rfl) (pe_lst pa_nil))
      (pss_cons (ps_for PassesOwn.never rfl (pi_range1 (by rfl) T.b_range (pa_cons (pv 3) pa_nil)) (pg_name (i := 5) sc_law_mark_events.nd rfl (.inl rfl))
      (G.pss_cut (ps_set (i := 6) sc_law_mark_events.nd rfl (.inl rfl) (pe_op op_cat (pe_op op_cat (pe_lst (pa_cons (pe_op op_sub pe_int pe_int) (pa_cons (pe_op op_sub pe_int pe_int) (pa_cons (pe_op op_sub pe_int pe_int) pa_nil)))) (pe_ifExp (pt_cmpR op_lt (pe_bm PySem.F.plainAttrs_list PySem.F.slot_list_count PySem.F.type_list_count mt_lcount (pv 4) (pa_cons (pe_op op_sub pe_int pe_int) pa_nil)) pe_int (nomark _)) (pe_lst (pa_cons (pe_op op_sub pe_int pe_int) (pa_cons (pe_op op_sub pe_int pe_int) pa_nil))) (pe_lst pa_nil))) (pe_op op_rep (pe_listRg rfl (by rfl) T.b_list (prg_1 (by rfl) T.b_range (pv 2))) pe_int)))
      (pss_cons (ps_setLc (i := 7) (own := [("event", 8)]) (g := (gName 8)) rfl sc_law_mark_events.nd rfl rfl (sw_true rfl rfl rfl (by decide +kernel)) (pi_list (pv 6)) (blkOk_by (own := [("event", 8)]) (N := ["deal", "table", "width", "many", "events", "turn", "some", "fits", "event"]) (sc := defScope s_law_mark_events) (by decide +kernel)) (fun _ _ _ _ _ => pg_name (i := 8) sc_law_mark_events.nd rfl (.inl rfl)) (fun _ _ _ _ _ => (pts_one (pt_cmpR op_notN1 (pe_callH (ok_law_marked T) hr (by rfl) (pa_cons (pv 1) (pa_cons (pv 2) (pa_cons (pe_op op_cat (pv 4) (pe_lst (pa_cons (pv 8) pa_nil))) pa_nil)))) pe_non (nomark _)))) (fun _ _ _ _ _ => (pv 8)))
      (pss_one (ps_expr (pe_bm PySem.F.plainAttrs_list PySem.F.slot_list_append PySem.F.type_list_append mt_append (pv 4) (pa_cons (pe_callH (ok_law_of T) hr (by rfl) (pa_cons (pv 0) (pa_cons (pv 7) pa_nil))) pa_nil)))))))
      (pss_one (ps_ret (pv 4))))), ?_⟩
    walk_at "go"
    have w0 : Own [d, l] B H B H [] := Own.begin e hD.in
    refine sx_newM w0.h (by simp) fun EL H1 hEL n1 m1 => ?_
    have w1 := w0.add hEL n1 m1
    have D1 := hD.up n1
    walk_at "sx"
    walk_at "st"
    walk_at "sx"
    have oE2 : EL ≠ d ∧ EL ≠ l := hD.off hEL
    refine sx_forR_by (by omega) (fun i σ H' => ∃ (B' : Hp) (es : List Int) (s : RS) (f : List Int) (y5 y6 y7 y8 : Option V), σ = [some (.ref d), some tv, some (.int (wn : Int)), some (.int (m : Int)), some (.ref EL), y5, y6, y7, y8] ∧ Own [d, l] B H B' H' [(EL, iV es)] ∧ Deal B' H' d l ∧ es.length = i ∧ goes tbl wn s0 [0] es = some (s, f)) ?_ (fun i σ H2 hi p => ?_) (fun σ H2 p => ?_)
    · exact ⟨B, [], s0, [0], _, _, _, _, rfl, w1, D1, rfl, rfl⟩
    · clear w1 D1 m1 n1 hEL
      obtain ⟨B2, es, s, f, y5, y6, y7, y8, rfl, w2, D2, le, hg⟩ := p
      have ok := goes_ok TT (s0_ok n0) hg
      have m2 := w2.mu 0 rfl
      refine sx_gname ?_
      walk_at "st"
      refine G.sx_cut (fun σ H' => ∃ (SL : Addr) (sm : List Int) (y7 y8 : Option V), σ = [some (.ref d), some tv, some (.int (wn : Int)), some (.int (m : Int)), some (.ref EL), some (.int (i : Int)), some (.ref SL), y7, y8] ∧ Own [d, l] B H B2 H' [(EL, iV es), (SL, iV sm)] ∧ Deal B2 H' d l ∧ 0 ∈ sm ∧ sm.length ≤ 100) ?_ ?_
      · have fin : ∀ (Z : Addr) (H3 : Hp) (zs : List Int) {Q' : VK}, Own [d, l] B H B2 H3 [(EL, iV es)] → Deal B2 H3 d l → H3 Z = some (.lst (iV zs)) → zs.length ≤ 10 →
            (∀ SL H4 sm, Own [d, l] B H B2 H4 [(EL, iV es), (SL, iV sm)] → Deal B2 H4 d l → 0 ∈ sm → sm.length ≤ 100 → Q' (.ref SL) H4) →
            tOp rRep (tLstRg (tRg1 (tVar 2))) (tC (V.int 3)) [some (.ref d), some tv, some (.int (wn : Int)), some (.int (m : Int)), some (.ref EL), some (.int (i : Int)), y6, y7, y8] H3 fun y H4 => rCat (.ref Z) y H4 Q' := fun Z H3 zs Q' w3 D3 hZ lz q => by
          walk_at "sx"
          refine sx_lstRgN (n := wn) (by omega) w3.h fun p4 H4 hp4 n4 m4 => ?_
          have w4 := w3.up n4
          walk_at "sx"
          have er : (List.replicate (3 : Int).toNat ((List.range wn).map fun (i : Nat) => V.int (i : Int))).flatten = iV ((List.replicate 3 ((List.range wn).map fun (i : Nat) => (i : Int))).flatten) := by
            unfold iV
            rw [List.map_flatten, List.map_replicate, List.map_map]
            rfl
          refine ⟨p4, 3, _, rfl, rfl, m4.h, by decide, by decide, sz_of (by rw [List.length_map, List.length_range]; show wn * 3 ≤ _; omega), fun p5 hp5 => ?_⟩
          rw [er]
          have n5 : Nx [] B2 H4 B2 (upd H4 p5 (.lst (iV ((List.replicate 3 ((List.range wn).map fun (i : Nat) => (i : Int))).flatten)))) := Nx.own w4.h hp5
          have hZ5 : (upd H4 p5 (.lst (iV ((List.replicate 3 ((List.range wn).map fun (i : Nat) => (i : Int))).flatten)))) Z = some (.lst (iV zs)) := n5.ex _ _ (n4.ex _ _ hZ)
          have lr : ((List.replicate 3 ((List.range wn).map fun (i : Nat) => (i : Int))).flatten).length = 3 * wn := by simp; omega
          refine sx_cat n5.h hZ5 upd_same (by rw [iV_len, iV_len, lr]; omega) fun p6 H6 hp6 n6 m6 => ?_
          have w6 := (w4.up n5).add hp6 n6 m6
          have D6 := ((D3.up n4).up n5).up n6
          refine q p6 H6 (zs ++ (List.replicate 3 ((List.range wn).map fun (i : Nat) => (i : Int))).flatten) ?_ D6 ?_ (by rw [List.length_append, lr]; omega)
          · have : iV (zs ++ (List.replicate 3 ((List.range wn).map fun (i : Nat) => (i : Int))).flatten) = iV zs ++ iV ((List.replicate 3 ((List.range wn).map fun (i : Nat) => (i : Int))).flatten) := by simp [iV]
            rw [this]
            exact w6
          · refine List.mem_append.mpr (.inr (List.mem_flatten.mpr ⟨(List.range wn).map fun (i : Nat) => (i : Int), by simp [List.replicate], List.mem_map.mpr ⟨0, List.mem_range.mpr w0', rfl⟩⟩))
        walk_at "sx"
        refine sx_newM w2.h (by simp) fun p3 H3 hp3 n3 m3 => ?_
        have w3 := w2.up n3
        have D3 := D2.up n3
        have m23 := w3.mu 0 rfl
        clear m2
        walk_at "sx"
        refine ⟨EL, es, _, rfl, rfl, m23.sq, ?_⟩
        walk_at "sx"
        by_cases h15 : ((es.count (0 - 2) : Nat) : Int) < 15
        · refine ifT (dT h15) ?_
          walk_at "sx"
          refine sx_newM w3.h (by simp) fun p4 H4 hp4 n4 m4 => ?_
          have w4 := w3.up n4
          have D4 := D3.up n4
          refine sx_cat n4.h (m3.up n4).h m4.h (by simp) fun p5 H5 hp5 n5 m5 => ?_
          refine fin p5 H5 [0 - 1, 0 - 3, 0 - 3, 0 - 2, 0 - 2] (w4.up n5) (D4.up n5) m5.h (by simp) fun SL H6 sm w6 D6 h0 hl => ?_
          walk_at "sx"
          walk_at "st"
          exact ⟨SL, sm, _, _, rfl, w6, D6, h0, hl⟩
        · refine ifF (dF h15) ?_
          walk_at "sx"
          refine sx_newM w3.h (by simp) fun p4 H4 hp4 n4 m4 => ?_
          have w4 := w3.up n4
          have D4 := D3.up n4
          refine sx_cat n4.h (m3.up n4).h m4.h (by simp) fun p5 H5 hp5 n5 m5 => ?_
          refine fin p5 H5 [0 - 1, 0 - 3, 0 - 3] (w4.up n5) (D4.up n5) m5.h (by simp) fun SL H6 sm w6 D6 h0 hl => ?_
          walk_at "sx"
          walk_at "st"
          exact ⟨SL, sm, _, _, rfl, w6, D6, h0, hl⟩
      · rintro σ H3 ⟨SL, sm, y7, y8, rfl, w3, D3, hz0, hzl⟩
        clear m2
        have ms := w3.mu 1 rfl
        walk_at "sx"
        refine sx_lcL_by ms.sq (fun F j H' => ∃ B' ft, Own [d, l] B H B' H' [(EL, iV es), (SL, iV sm), (F, iV ft)] ∧ Deal B' H' d l ∧ Ex B2 B' ∧ (∀ x ∈ ft, goes tbl wn s0 [0] (es ++ [x]) ≠ none) ∧ (∀ x ∈ sm.take j, goes tbl wn s0 [0] (es ++ [x]) ≠ none → x ∈ ft) ∧ ft.length ≤ j) (fun F hF => ?_) (fun F j H' _ p => ?_) (fun F j x H4 hj p => ?_) (fun F H4 p => ?_)
        · exact ⟨B2, [], w3.lc0 hF, D3.up (Nx.own (M := []) w3.h hF), Ex.refl _, by simp, by simp, by simp⟩
        · obtain ⟨_, _, w', _⟩ := p
          exact (w'.mu 1 rfl).sq
        · obtain ⟨B4, ft, w4, D4, e24, f1, f2, lf⟩ := p
          obtain ⟨c, hc, rfl⟩ := iV_at hj
          have hjl := (List.getElem?_eq_some_iff.mp hc).1
          have me := w4.mu 0 rfl
          have dt4 := Dp.up (w3.b.trans e24) dt
          refine sx_gname ?_
          walk_at "st"
          refine ⟨trivial, ?_⟩
          walk_at "sx"
          refine sx_newM w4.h (by simp) fun p5 H5 hp5 n5 m5 => ?_
          have me5 := me.up n5
          clear me
          refine sx_cat n5.h me5.h m5.h (by rw [iV_len]; simp; omega) fun p6 H6 hp6 n6 m6 => ?_
          have w6 := (w4.up n5).up n6
          walk_at "sx"
          refine ⟨B4, tv, p6, tbl, wn, n, es ++ [c], rfl, n6.h, dt4, TT, n0, by rw [← iV_snoc]; exact m6.sq, by simp; omega, fun B7 H7 v n7 dv => ?_⟩
          have w7 := w6.up n7
          have D7 := ((D4.up n5).up n6).up n7
          walk_at "sx"
          cases hgo : goes tbl wn s0 [0] (es ++ [c]) with
          | none =>
            rw [hgo] at dv
            cases Dp.none_v dv
            refine ifF rfl ?_
            refine ⟨B7, ft, w7, D7, e24.trans n7.b, f1, fun y hy hn => ?_, by omega⟩
            rw [List.take_add_one, hc] at hy
            rcases List.mem_append.mp hy with z | z
            · exact f2 y z hn
            · have : y = c := by simpa using z
              subst this
              exact absurd hgo hn
          | some q =>
            rw [hgo] at dv
            obtain ⟨q1, q2⟩ := q
            obtain ⟨va, _, rfl, _⟩ := Dp.tup_v dv
            refine ifT (by simp) ?_
            walk_at "sx"
            have oF := w7.o (F, iV ft) (by simp)
            have oF2 : F ≠ d ∧ F ≠ l := by simpa using oF.2
            refine ⟨_, (w7.mu 2 rfl).h, sz_lt (by rw [iV_len]; omega), B7, ft ++ [c], by rw [← iV_snoc]; exact w7.grow 2 rfl, D7.up (w7.gn 2 rfl) (by simp [oF2.1.symm, oF2.2.symm]), e24.trans n7.b, fun y hy => ?_, fun y hy hn => ?_, by simp; omega⟩
            · rcases List.mem_append.mp hy with z | z
              · exact f1 y z
              · rw [List.mem_singleton] at z
                subst z
                rw [hgo]
                simp
            · rw [List.take_add_one, hc] at hy
              rcases List.mem_append.mp hy with z | z
              · exact List.mem_append.mpr (.inl (f2 y z hn))
              · have : y = c := by simpa using z
                subst this
                exact List.mem_append.mpr (.inr (by simp))
        · obtain ⟨B4, ft, w4, D4, e24, f1, f2, lf⟩ := p
          rw [iV_len, List.take_length] at f2
          have h0 : goes tbl wn s0 [0] (es ++ [0]) ≠ none := by
            rw [goes_snoc, hg]
            have hb := ok.st _ (last_mem ok.ne)
            have : stp tbl wn s 0 = some ⟨s.way ++ [cell tbl (lastI s.way) 0], cutM (s.way.length + 1) s.marks, s.plain ++ [0]⟩ := by
              unfold stp
              rw [if_neg (by decide), if_neg (by decide), if_neg (by decide), if_pos ⟨by omega, by omega, free _ hb.1 hb.2⟩]
            simp only [this]
            simp
          have h0f := f2 0 hz0 h0
          have lpos : 0 < ft.length := List.length_pos_iff.mpr (fun z => by rw [z] at h0f; cases h0f)
          have me4 := w4.mu 0 rfl
          have mf4 := w4.mu 2 rfl
          have oF := w4.o (F, iV ft) (by simp)
          have oF2 : F ≠ d ∧ F ≠ l := by simpa using oF.2
          walk_at "sx"
          walk_at "st"
          walk_at "sx"
          rw [iV_len] at lf
          refine ⟨B4, d, l, F, _, rfl, w4.h, D4, mf4.sq, oF2.1, oF2.2, by rw [iV_len]; omega, by rw [iV_len]; omega, fun B5 H5 q v n5 D5 hv => ?_⟩
          obtain ⟨c, hc, rfl⟩ := iV_at hv
          have w5 := w4.upM n5 D5.in
          have hgo := f1 c (List.mem_of_getElem? hc)
          walk_at "sx"
          refine sx_appO w5 0 rfl (by rw [iV_len]; omega) fun H6 w6 n6 => ?_
          have D6 := D5.up n6 (by simp [oE2.1.symm, oE2.2.symm])
          cases hq : goes tbl wn s0 [0] (es ++ [c]) with
          | none => exact absurd hq hgo
          | some q =>
            obtain ⟨q1, q2⟩ := q
            exact ⟨B5, es ++ [c], q1, q2, _, _, _, _, rfl, by rw [← iV_snoc]; exact (w6.drop1 2).drop1 1, D6, by simp [le], hq⟩
    · obtain ⟨B2, es, s, f, y5, y6, y7, y8, rfl, w2, D2, le, hg⟩ := p
      walk_at "sx"
      exact k B2 H2 EL es s f w2.n D2 (w2.free 0 rfl) (w2.mu 0 rfl) le hg
end
end C
namespace C
open PySem L2 G
section
variable {P : Program} {w : World} {K : PySem.W.Frag} {mg : Str → Option Value} {base : Heap}
/-! ### a plain run of what was done plainly -/
theorem pgo_app {tbl : List (List Int)} {w : Nat} : ∀ {xs ys way f : List Int}, pgo tbl w way f (xs ++ ys) = match pgo tbl w way f xs with
    | none => none
    | some (way', f') => pgo tbl w way' f' ys
  | [], _, _, _ => rfl
  | x :: xs, ys, way, f => by
    show pgo tbl w way f (x :: (xs ++ ys)) = _
    simp only [pgo]
    cases pst tbl w way x with
    | none => rfl
    | some way' => exact pgo_app
theorem pgo_undo {tbl : List (List Int)} {w : Nat} : ∀ (k : Nat) {way f : List Int}, k < way.length → f ≠ [] → lastI f = lastI way → ∃ f', pgo tbl w way f (List.replicate k (-1)) = some (way.take (way.length - k), f') ∧ f' ≠ [] ∧ lastI f' = lastI (way.take (way.length - k))
  | 0, way, f, _, hf, hl => ⟨f, by rw [Nat.sub_zero, List.take_length]; rfl, hf, by rw [Nat.sub_zero, List.take_length]; exact hl⟩
  | k + 1, way, f, h, hf, hl => by
    have hp : pst tbl w way (-1) = some way.dropLast := by
      unfold pst
      rw [if_pos rfl, if_neg (by omega)]
    rw [List.replicate_succ]
    simp only [pgo, hp]
    have hd : way.dropLast.length = way.length - 1 := List.length_dropLast
    obtain ⟨f', e1, e2, e3⟩ := pgo_undo (tbl := tbl) (w := w) k (way := way.dropLast) (f := f ++ [lastI way.dropLast]) (by omega) (by simp) (last_snoc _ _)
    have et : way.dropLast.take (way.dropLast.length - k) = way.take (way.length - (k + 1)) := by
      rw [hd, List.dropLast_eq_take, List.take_take]
      congr 1
      omega
    rw [et] at e1 e3
    exact ⟨f', e1, e2, e3⟩
theorem stp_plain {tbl : List (List Int)} {w n : Nat} {s s' : RS} {e : Int} {f : List Int} (o : RSOk n s) (h : stp tbl w s e = some s') (hp : pgo tbl w [0] [0] s.plain = some (s.way, f)) (hf : f ≠ []) (hl : lastI f = lastI s.way) :
    ∃ f', pgo tbl w [0] [0] s'.plain = some (s'.way, f') ∧ f' ≠ [] ∧ lastI f' = lastI s'.way := by
  by_cases h2 : e = -2
  · unfold stp at h
    rw [if_pos h2] at h
    cases h
    exact ⟨f, hp, hf, hl⟩
  · by_cases h3 : e = -3
    · unfold stp at h
      rw [if_neg h2, if_pos h3] at h
      split at h
      · cases h
      · rename_i g hg
        cases h
        have hgm := o.mks g (List.mem_of_getLast? hg)
        obtain ⟨f', e1, e2, e3⟩ := pgo_undo (tbl := tbl) (w := w) (s.way.length - 1 - g.toNat) (way := s.way) (f := f) (by omega) hf hl
        rw [show s.way.length - (s.way.length - 1 - g.toNat) = g.toNat + 1 by omega] at e1 e3
        refine ⟨f', ?_, e2, e3⟩
        rw [pgo_app, hp]
        exact e1
    · rw [pst_stp h2 h3] at h
      cases hq : pst tbl w s.way e with
      | none => rw [hq] at h; cases h
      | some way' =>
        rw [hq] at h
        cases h
        refine ⟨f ++ [lastI way'], ?_, by simp, last_snoc _ _⟩
        rw [pgo_app, hp]
        simp only [pgo, hq]
theorem goes_plain {tbl : List (List Int)} {w n : Nat} (T : TblOk tbl w n) : ∀ {es : List Int} {s s' : RS} {f f' fp : List Int}, RSOk n s → goes tbl w s f es = some (s', f') → pgo tbl w [0] [0] s.plain = some (s.way, fp) → fp ≠ [] → lastI fp = lastI s.way → ∃ fp', pgo tbl w [0] [0] s'.plain = some (s'.way, fp') ∧ fp' ≠ [] ∧ lastI fp' = lastI s'.way
  | [], s, s', f, f', fp, o, h, hp, hf, hl => by cases h; exact ⟨fp, hp, hf, hl⟩
  | e :: es, s, s', f, f', fp, o, h, hp, hf, hl => by
    simp only [goes] at h
    cases z : stp tbl w s e with
    | none => rw [z] at h; cases h
    | some s2 =>
      rw [z] at h
      obtain ⟨fp2, e1, e2, e3⟩ := stp_plain o z hp hf hl
      exact goes_plain T (stp_ok T o z) h e1 e2 e3
theorem stp_len2 {tbl : List (List Int)} {w : Nat} {s s' : RS} {e : Int} (h : stp tbl w s e = some s') : s'.plain.length + s'.way.length ≤ s.plain.length + s.way.length + 2 := by
  unfold stp at h
  split at h
  · cases h
    simp
  · split at h
    · split at h
      · cases h
      · rename_i g hg
        cases h
        simp only [List.length_append, List.length_replicate, List.length_take]
        omega
    · split at h
      · split at h
        · cases h
        · cases h
          simp only [List.length_append, List.length_singleton, List.length_dropLast]
          omega
      · split at h
        · cases h
          simp only [List.length_append, List.length_singleton]
          omega
        · cases h
theorem goes_len {tbl : List (List Int)} {w : Nat} : ∀ {es : List Int} {s s' : RS} {f f' : List Int}, goes tbl w s f es = some (s', f') → s'.plain.length + s'.way.length ≤ s.plain.length + s.way.length + 2 * es.length ∧ f'.length = f.length + es.length
  | [], _, _, _, _, h => by cases h; simp
  | e :: es, s, s', f, f', h => by
    simp only [goes] at h
    cases z : stp tbl w s e with
    | none => rw [z] at h; cases h
    | some s2 =>
      rw [z] at h
      have h1 := stp_len2 z
      have h2 := goes_len h
      simp only [List.length_cons, List.length_append, List.length_nil] at h2 ⊢
      omega
/-- a wrong event anywhere -/
theorem goes_bad {tbl : List (List Int)} {w : Nat} {es : List Int} {s : RS} {f : List Int} {b : Int} (h : goes tbl w s0 [0] es = some (s, f)) (hb : b = -4 ∨ (w : Int) ≤ b) (k : Nat) : goes tbl w s0 [0] (es.take k ++ [b] ++ es.drop k) = none := by
  refine goes_none ?_
  rw [goes_snoc]
  cases z : goes tbl w s0 [0] (es.take k) with
  | none => rfl
  | some q =>
    obtain ⟨s1, f1⟩ := q
    have : stp tbl w s1 b = none := by
      unfold stp
      rw [if_neg (by omega), if_neg (by omega), if_neg (by omega), if_neg (fun z => by omega)]
    simp only [this]
theorem ints_of {K : PySem.W.Frag} {B : Hp} : ∀ {r : List Int} {xs : List V}, DpAll K B xs (iD r) → xs = iV r
  | [], _, h => by cases h; rfl
  | a :: r, _, h => by
    cases h with
    | cons h1 h2 =>
      cases Dp.int_v h1
      rw [ints_of h2]
      rfl
theorem okN_ints {l : List Int} (h : l.length ≤ 1000) (k : Nat) : okN (k + 1) (.tuple (iD l)) = true := by
  rw [okN, Bool.and_eq_true, List.all_eq_true]
  refine ⟨decide_eq_true (by simpa [iD] using h), fun d hd => ?_⟩
  obtain ⟨i, _, rfl⟩ := List.mem_map.mp hd
  cases k <;> rfl
theorem pair_of {K : PySem.W.Frag} {B : Hp} {p : Addr} {d : PyData} (h : Dp K B (.ref p) (.tuple [d, d])) (ok : okN 8 d = true) : PairOk K B (.ref p) := by
  obtain ⟨q, ys, e, hq, dq⟩ := Dp.tup_v h
  cases e
  cases dq with
  | cons da db =>
    cases db with
    | cons db dc =>
      cases dc
      exact ⟨_, _, _, _, rfl, hq, da, db, ok⟩
theorem Deal.rebase {B B' H : Hp} {d l : Addr} (D : Deal B H d l) (h1 : B' d = none) (h2 : B' l = none) : Deal B' H d l := by
  obtain ⟨cs, mix, m1, m2, r⟩ := D
  exact ⟨cs, mix, ⟨h1, m1.h⟩, ⟨h2, m2.h⟩, r⟩
end
end C
namespace C
open PySem L2 G
section
variable {P : Program} {w : World} {K : PySem.W.Frag} {mg : Str → Option Value} {base : Heap}
/-! ### rows of one's own -/
theorem set_same {α : Type} {l : List α} {i : Nat} {a : α} (h : l[i]? = some a) : l.set i a = l := by
  have hi := (List.getElem?_eq_some_iff.mp h).1
  refine List.ext_getElem? fun k => ?_
  by_cases hk : i = k
  · subst hk
    rw [List.getElem?_set_self hi, h]
  · rw [List.getElem?_set_ne hk]
section
variable {M : List Addr} {B0 H0 B H : Hp} {ls : List (Addr × List V)} {q : Addr × List V} {l : Addr} {xs : List V}
theorem Own.init (w : Own M B0 H0 B H (ls ++ [q])) : Own M B0 H0 B H ls :=
  ⟨w.n, fun z hz => w.m z (List.mem_append.mpr (.inl hz)), fun z hz => w.o z (List.mem_append.mpr (.inl hz)), w.d.sublist ((List.sublist_append_left ls [q]).map (·.1)), w.hM⟩
theorem Own.endM (w : Own M B0 H0 B H (ls ++ [(l, xs)])) : Mu B H l xs := w.m _ (List.mem_append.mpr (.inr (List.mem_singleton.mpr rfl)))
theorem Own.growL (w : Own M B0 H0 B H (ls ++ [(l, xs)])) {y : V} : Own M B0 H0 B (upd H l (.lst (xs ++ [y]))) (ls ++ [(l, xs ++ [y])]) := by
  have := w.grow (l := l) (xs := xs) ls.length (by simp) (y := y)
  simpa [List.set_append] using this
end
theorem frz_rows {K : PySem.W.Frag} {M : List Addr} {B0 H0 H : Hp} {q0 : Addr × List V} : ∀ {rws : List (Addr × List V)} {tbl : List (List Int)} {B : Hp}, Own M B0 H0 B H (q0 :: rws) → rws.map (·.2) = tbl.map iV → ∃ B', Own M B0 H0 B' H [q0] ∧ Ex B B' ∧ (∀ a ∈ M, B a = none → B' a = none) ∧ DpAll K B' (rws.map fun q => .ref q.1) (tbl.map fun r => .list (iD r))
  | [], tbl, B, w, h => by
    have : tbl = [] := by simpa using h.symm
    subst this
    exact ⟨B, w, Ex.refl _, fun _ _ h => h, .nil⟩
  | (a, xs) :: rws, tbl, B, w, h => by
    match tbl, h with
    | r :: tbl, h =>
      simp only [List.map_cons, List.cons.injEq] at h
      obtain ⟨h1, h2⟩ := h
      subst h1
      have m := w.mu 1 rfl
      have o := w.o (a, iV r) (by simp)
      have w2 := w.frz 1 rfl
      obtain ⟨B', w3, e3, f3, d3⟩ := frz_rows (K := K) w2 h2
      exact ⟨B', w3, (Ex.new m.b).trans e3, fun c hc hb => f3 c hc (by rw [upd_ne (fun z => o.2 (by subst z; exact hc))]; exact hb), .cons (Dp.up e3 (m.frzL (ints_d r))) d3⟩
structure TB (d l T : Addr) (tbl : List (List Int)) (B0 H0 B H : Hp) : Prop where
  ex : ∃ rws : List (Addr × List V), Own [d, l] B0 H0 B H ((T, rws.map fun q => .ref q.1) :: rws) ∧ rws.map (·.2) = tbl.map iV
section
variable {K : PySem.W.Frag} {d l T : Addr} {tbl : List (List Int)} {B0 H0 B H B' H' : Hp}
theorem TB.begin (e : Ex B H) (D : Deal B H d l) (hT : H T = none) : TB d l T [] B H B (upd H T (.lst [])) := ⟨[], (Own.begin e D.in).lc0 hT, rfl⟩
theorem TB.up (t : TB d l T tbl B0 H0 B H) (n : Nx [] B H B' H') : TB d l T tbl B0 H0 B' H' := by
  obtain ⟨rws, w, h⟩ := t
  exact ⟨rws, w.up n, h⟩
theorem TB.upM (t : TB d l T tbl B0 H0 B H) (n : Nx [d, l] B H B' H') (D : Deal B' H' d l) : TB d l T tbl B0 H0 B' H' := by
  obtain ⟨rws, w, h⟩ := t
  exact ⟨rws, w.upM n D.in, h⟩
theorem TB.nx (t : TB d l T tbl B0 H0 B H) : Nx [d, l] B0 H0 B H := by
  obtain ⟨rws, w, h⟩ := t
  exact w.n
theorem TB.e (t : TB d l T tbl B0 H0 B H) : Ex B H := t.nx.h
theorem TB.len (t : TB d l T tbl B0 H0 B H) : ∃ xs, Mu B H T xs ∧ xs.length = tbl.length := by
  obtain ⟨rws, w, h⟩ := t
  have := congrArg List.length h
  rw [List.length_map, List.length_map] at this
  exact ⟨_, w.mu 0 rfl, by rw [List.length_map, this]⟩
theorem TB.at (t : TB d l T tbl B0 H0 B H) {i : Nat} {r : List Int} (hr : tbl[i]? = some r) : ∃ xs q, Mu B H T xs ∧ xs[i]? = some (.ref q) ∧ (q ≠ d ∧ q ≠ l) ∧
    ∀ B' H', Nx [d, l] B H B' H' → Deal B' H' d l → Mu B' H' q (iV r) ∧ ∀ H'' r', Nx [q] B' H' B' H'' → Mu B' H'' q (iV r') → TB d l T (tbl.set i r') B0 H0 B' H'' := by
  obtain ⟨rws, w, h⟩ := t
  have h2 : (rws.map (·.2))[i]? = some (iV r) := by rw [h, List.getElem?_map, hr]; rfl
  rw [List.getElem?_map] at h2
  obtain ⟨⟨q, ys⟩, hq, e⟩ : ∃ z, rws[i]? = some z ∧ z.2 = iV r := by
    cases z : rws[i]? with
    | none => rw [z] at h2; cases h2
    | some y => rw [z] at h2; exact ⟨y, rfl, Option.some.inj h2⟩
  subst e
  have hq1 : ((T, rws.map fun q => V.ref q.1) :: rws)[i + 1]? = some (q, iV r) := hq
  have o := w.o _ (List.mem_of_getElem? hq1)
  refine ⟨_, q, w.mu 0 rfl, by rw [List.getElem?_map, hq]; rfl, by simpa using o.2, fun B' H' n D => ?_⟩
  have w' := w.upM n D.in
  refine ⟨w'.mu (i + 1) hq1, fun H'' r' n m => ⟨rws.set i (q, iV r'), ?_, ?_⟩⟩
  · have := w'.put (i + 1) hq1 n m
    have e2 : (rws.set i (q, iV r')).map (fun q => V.ref q.1) = rws.map fun q => V.ref q.1 := by
      rw [List.map_set]
      exact set_same (by rw [List.getElem?_map, hq]; rfl)
    rw [e2]
    exact this
  · rw [List.map_set, List.map_set, h]
theorem TB.add (t : TB d l T tbl B0 H0 B H) (D : Deal B H d l) {p : Addr} {r : List Int} (hp : H p = none) (n : Nx [] B H B H') (m : Mu B H' p (iV r)) (hz : tbl.length < 90000) :
    ∃ acc, H' T = some (.lst acc) ∧ acc.length < sizeLine ∧ (TB d l T (tbl ++ [r]) B0 H0 B (upd H' T (.lst (acc ++ [.ref p]))) ∧ Deal B (upd H' T (.lst (acc ++ [.ref p]))) d l) := by
  obtain ⟨rws, w, h⟩ := t
  have hl := congrArg List.length h
  rw [List.length_map, List.length_map] at hl
  have w2 := w.add hp n m
  have oT := w2.o (T, rws.map fun q => V.ref q.1) (by simp)
  have oT2 : T ≠ d ∧ T ≠ l := by simpa using oT.2
  refine ⟨_, (w2.mu 0 rfl).h, sz_lt (by rw [List.length_map]; omega), ⟨rws ++ [(p, iV r)], ?_, ?_⟩, (D.up n).up (w2.gn 0 rfl) (by simp [oT2.1.symm, oT2.2.symm])⟩
  · have := w2.grow 0 rfl (y := .ref p)
    rw [List.map_append]
    exact this
  · rw [List.map_append, List.map_append, h]
    rfl
/-- the table is kept as it is from here on -/
theorem TB.frz (K : PySem.W.Frag) (t : TB d l T tbl B0 H0 B H) (D : Deal B H d l) : ∃ B', Nx [d, l] B0 H0 B' H ∧ Deal B' H d l ∧ Ex B B' ∧ Dp K B' (.ref T) (tblL tbl) := by
  obtain ⟨rws, w, h⟩ := t
  obtain ⟨B', w2, e2, f2, d2⟩ := frz_rows (K := K) w h
  have m := w2.mu 0 rfl
  have w3 := w2.frz 0 rfl
  have o := w2.o (T, rws.map fun q => V.ref q.1) (by simp)
  have o2 : T ≠ d ∧ T ≠ l := by simpa using o.2
  have hb : ∀ a ∈ [d, l], B a = none := by
    obtain ⟨cs, mix, m1, m2, _⟩ := D
    intro a ha
    simp only [List.mem_cons, List.not_mem_nil, or_false] at ha
    rcases ha with rfl | rfl
    · exact m1.b
    · exact m2.b
  have D2 : Deal B' H d l := Deal.rebase D (f2 d (by simp) (hb d (by simp))) (f2 l (by simp) (hb l (by simp)))
  exact ⟨_, w3.n, D2.frzO o2, e2.trans (Ex.new m.b), m.frzL d2⟩
/-- [tuple(row) for row in table] -/
theorem TB.tup {Q : VK} {σ : L2.St} (t : TB d l T tbl B0 H0 B H) (D : Deal B H d l) (hz : tbl.length < 90000) (h9 : ∀ x : V, ((wipe σ [9]).set 9 (some x))[9]? = some (some x)) (hw : ∀ x : V, wipe ((wipe σ [9]).set 9 (some x)) [9] = wipe σ [9])
    (q : ∀ C cs B' H', TB d l T tbl B0 H0 B' H' → Deal B' H' d l → Ex B B' → Mu B' H' C cs → DpAll K B' cs (tbl.map fun r => .tuple (iD r)) → Q (.ref C) H') : rLcL K (gName 9) tYes (tCB (rTupF K) (tCons (tVar 9) tNil)) [9] σ (.ref T) H Q := by
  obtain ⟨rws, w, h⟩ := t
  have hl := congrArg List.length h
  rw [List.length_map, List.length_map] at hl
  have mT := w.mu 0 rfl
  refine sx_lcL_by mT.sq (fun C j H' => ∃ B' cs, Own [d, l] B0 H0 B' H' (((T, rws.map fun q => .ref q.1) :: rws) ++ [(C, cs)]) ∧ Deal B' H' d l ∧ Ex B B' ∧ DpAll K B' cs ((tbl.take j).map fun r => .tuple (iD r))) (fun C hC => ?_) (fun C j H' _ p => ?_) (fun C j x H1 hj p => ?_) (fun C H1 p => ?_)
  · exact ⟨B, [], w.lc0 hC, D.up (Nx.own (M := []) w.h hC), Ex.refl _, .nil⟩
  · obtain ⟨_, _, w', _⟩ := p
    exact (w'.mu 0 rfl).sq
  · obtain ⟨B1, cs, w1, D1, e1, d1⟩ := p
    rw [List.getElem?_map] at hj
    obtain ⟨⟨a, ys⟩, ha, rfl⟩ : ∃ z, rws[j]? = some z ∧ V.ref z.1 = x := by
      cases z : rws[j]? with
      | none => rw [z] at hj; cases hj
      | some y => rw [z] at hj; exact ⟨y, rfl, Option.some.inj hj⟩
    have h2 : (rws.map (·.2))[j]? = some ys := by rw [List.getElem?_map, ha]; rfl
    rw [h, List.getElem?_map] at h2
    obtain ⟨r, hr, rfl⟩ : ∃ r, tbl[j]? = some r ∧ iV r = ys := by
      cases z : tbl[j]? with
      | none => rw [z] at h2; cases h2
      | some y => rw [z] at h2; exact ⟨y, rfl, Option.some.inj h2⟩
    have hjl := (List.getElem?_eq_some_iff.mp hr).1
    have ma : Mu B1 H1 a (iV r) := (Own.init w1).mu (j + 1) (show ((T, rws.map fun q => V.ref q.1) :: rws)[j + 1]? = _ from ha)
    refine sx_gname ?_
    refine ⟨hw _, ?_⟩
    refine sx_yes ?_
    refine iteT ?_
    refine sx_cb ?_
    refine sx_cons ?_
    refine sx_var (h9 _) ?_
    refine sx_nil ?_
    refine sx_tupL w1.h ma.sq (ints_d r) fun p B2 H2 hp n2 d2 => ?_
    have w2 := w1.up n2
    have oC := w2.o (C, cs) (by simp)
    have oC2 : C ≠ d ∧ C ≠ l := by simpa using oC.2
    have lc := Dps.len d1
    rw [List.length_map, List.length_take] at lc
    refine ⟨_, (Own.endM w2).h, sz_lt (by omega), B2, cs ++ [.ref p], Own.growL w2, (D1.up n2).up ((Own.endM w2).put w2.h) (by simp [oC2.1.symm, oC2.2.symm]), e1.trans n2.b, ?_⟩
    rw [List.take_add_one, hr, List.map_append]
    exact Dps.app (Dps.up n2.b d1) (.cons d2 .nil)
  · obtain ⟨B1, cs, w1, D1, e1, d1⟩ := p
    rw [List.length_map, hl, List.take_length] at d1
    exact q C cs B1 H1 ⟨rws, Own.init w1, h⟩ D1 e1 (Own.endM w1) d1
end
/-! ### the table's numbers -/
theorem tblOf_ok {cols : List (List Int)} {n : Nat} (h : ColsOk cols n) : TblOk (tblOf cols n) cols.length n := ⟨by simp [tblOf], fun r hr => by
  obtain ⟨s, hs, rfl⟩ := List.mem_map.mp hr
  rw [List.mem_range] at hs
  refine ⟨by simp, fun x hx => ?_⟩
  obtain ⟨c, hc, rfl⟩ := List.mem_map.mp hx
  have hk := h.c c hc
  have hsc : s < c.length := by omega
  have e : c.getD s 0 = c[s] := by simp [List.getD, List.getElem?_eq_getElem hsc]
  have := hk.2 _ (List.getElem_mem hsc)
  rw [e]
  omega⟩
theorem tblOf_col0 {cols : List (List Int)} {n : Nat} (h : ColsOk cols n) : ∀ s : Int, 0 ≤ s → s < (n : Int) → 0 ≤ cell (tblOf cols n) s 0 := fun s h0 h1 => by
  have hs : s.toNat < n := by omega
  match cols, h with
  | [], h => exact absurd rfl h.ne
  | c :: r, h =>
    have hk := h.c c (by simp)
    have hsc : s.toNat < c.length := by omega
    have e : cell (tblOf (c :: r) n) s 0 = c[s.toNat] := by simp [cell, tblOf, List.getD, hs, hsc]
    rw [e]
    exact (hk.2 _ (List.getElem_mem hsc)).1
theorem set_ok {tbl : List (List Int)} {wn n : Nat} (T : TblOk tbl wn n) {i j : Nat} {r : List Int} (hr : tbl[i]? = some r) : TblOk (tbl.set i (r.set j (0 - 1))) wn n := ⟨by rw [List.length_set]; exact T.len, fun q hq => by
  rcases mem_set_cases hq with ⟨k, _, e⟩ | e
  · exact T.row q (List.mem_of_getElem? e)
  · subst e
    have hk := T.row r (List.mem_of_getElem? hr)
    refine ⟨by rw [List.length_set]; exact hk.1, fun x hx => ?_⟩
    rcases mem_set_cases hx with ⟨k, _, e⟩ | e
    · exact hk.2 x (List.mem_of_getElem? e)
    · subst e
      omega⟩
theorem set_col0 {tbl : List (List Int)} {i j : Nat} {r : List Int} (hr : tbl[i]? = some r) (hj : 1 ≤ j) (s : Int) : cell (tbl.set i (r.set j (0 - 1))) s 0 = cell tbl s 0 := by
  unfold cell
  have hi := (List.getElem?_eq_some_iff.mp hr).1
  have hz : (r.set j (0 - 1))[(0 : Int).toNat]? = r[(0 : Int).toNat]? := List.getElem?_set_ne (by show j ≠ 0; omega)
  by_cases z : i = s.toNat
  · subst z
    simp only [List.getD, List.getElem?_set_self hi, hr, Option.getD_some, hz]
  · simp only [List.getD, List.getElem?_set_ne z]
/-! ### what stays along one turn -/
structure LM (K : PySem.W.Frag) (mg : Str → Option Value) (d l L : Addr) (mv : V) (tbl : List (List Int)) (wn m : Nat) (B H : Hp) : Prop where
  xs : ∃ xs, Mu B H L xs ∧ (∀ x ∈ xs, PairOk K B x) ∧ xs.length ≤ m
  e : Ex B H
  D : Deal B H d l
  M : MachD K mg B mv tbl wn
  o : L ≠ d ∧ L ≠ l
section
variable {d l L : Addr} {mv : V} {tbl : List (List Int)} {wn m n : Nat} {B H B' H' : Hp}
theorem LM.up0 (h : LM K mg d l L mv tbl wn m B H) (n : Nx [] B H B' H') : LM K mg d l L mv tbl wn m B' H' := by
  obtain ⟨⟨xs, x1, x2, x3⟩, e, D, M, o⟩ := h
  exact ⟨⟨xs, x1.up n, fun x hx => (x2 x hx).up n.b, x3⟩, n.h, D.up n, M.up n.b, o⟩
theorem LM.upD (h : LM K mg d l L mv tbl wn m B H) (n : Nx [d, l] B H B' H') (D' : Deal B' H' d l) : LM K mg d l L mv tbl wn m B' H' := by
  obtain ⟨⟨xs, x1, x2, x3⟩, e, D, M, o⟩ := h
  exact ⟨⟨xs, x1.up n (by simp [o]), fun x hx => (x2 x hx).up n.b, x3⟩, n.h, D', M.up n.b, o⟩
theorem LM.ty (h : LM K mg d l L mv tbl wn m B H) {A : Prop} (q : A) : tyV K "list" (.ref L) H ∧ A := by
  obtain ⟨xs, x, _⟩ := h.xs
  exact sx_tyL x.sq q
theorem LM.add {v : V} {Q : VK} (h : LM K mg d l L mv tbl wn m B H) (hm : m < 50000) (hv : PairOk K B v) (q : ∀ H', Nx [L] B H B H' → LM K mg d l L mv tbl wn (m + 1) B H' → Q .non H') : rAppend (.ref L) [v] H Q := by
  obtain ⟨⟨xs, x1, x2, x3⟩, e, D, M, o⟩ := h
  refine sx_append x1 e (by omega) fun H' n' m' => q H' n' ⟨⟨_, m', fun x hx => ?_, by simp; omega⟩, n'.h, D.up n' (by simp [o.1.symm, o.2.symm]), M, o⟩
  rcases List.mem_append.mp hx with y | y
  · exact x2 x y
  · rw [List.mem_singleton.mp y]
    exact hv
theorem LM.frz {E : Addr} {ys : List V} (h : LM K mg d l L mv tbl wn m B H) (me : Mu B H E ys) (hL : E ≠ L) (hd : E ≠ d ∧ E ≠ l) : LM K mg d l L mv tbl wn m (upd B E (.lst ys)) H := by
  obtain ⟨⟨xs, x1, x2, x3⟩, e, D, M, o⟩ := h
  exact ⟨⟨xs, x1.frzO hL.symm, fun x hx => (x2 x hx).up (Ex.new me.b), x3⟩, Ex.frz e me.h, D.frzO hd, M.up (Ex.new me.b), o⟩
theorem LM.ne {p : Addr} (h : LM K mg d l L mv tbl wn m B H) (hp : H p = none) : p ≠ L := by
  obtain ⟨xs, x, _⟩ := h.xs
  exact x.ne hp
/-- pairs + [..] -/
theorem LM.cat {vs : List V} {Q : VK} (h : LM K mg d l L mv tbl wn m B H) (hm : m < 50000) (hl : vs.length < 9) (hv : ∀ v ∈ vs, PairOk K B v) (q : ∀ L' H', Nx [] B H B H' → LM K mg d l L' mv tbl wn (m + vs.length) B H' → Q (.ref L') H') : rNewL vs H fun v H' => rCat (.ref L) v H' Q := by
  obtain ⟨⟨xs, x1, x2, x3⟩, e, D, M, o⟩ := h
  refine sx_newM e (by omega) fun p H1 hp n1 m1 => ?_
  have x1' := x1.up n1
  refine sx_cat n1.h x1'.h m1.h (by omega) fun L' H2 hL n2 m2 => ?_
  refine q L' H2 (n1.tr n2) ⟨⟨_, m2, fun x hx => ?_, by simp; omega⟩, n2.h, (D.up n1).up n2, M, (D.up n1).off hL⟩
  rcases List.mem_append.mp hx with y | y
  · exact x2 x y
  · exact hv x y
theorem LM.run {Dd : Option (RS × List Int) → PyData} {e : Addr} {es : List Int} {Q : VK} {E : XK} (h : LM K mg d l L mv tbl wn m B H) (T : TblOk tbl wn n) (h0 : 0 < n) (he : SqT K B e (iV es)) (hz : es.length ≤ 100) (q : ∀ B' H' v, Nx [] B H B' H' → LM K mg d l L mv tbl wn m B' H' → Dp K B' v (Dd (goes tbl wn s0 [0] es)) → Q v H') : spRun K mg Dd [mv, .ref e] H Q E :=
  ⟨B, mv, e, tbl, wn, n, es, rfl, h.e, h.M, T, h0, he, hz, fun B' H' v n' dv => q B' H' v n' (h.up0 n') dv⟩
end
theorem sx_lstDF {K : PySem.W.Frag} {σ : L2.St} {B H : Hp} {ta : TA} {ds : List PyData} {Q : VK} (h : DVs K ta σ B ds) (e : Ex B H) (hz : ds.length ≤ 100000) (q : ∀ p xs B' H', Nx [] B H B' H' → SqL K B' p xs → DpAll K B' xs ds → Q (.ref p) H') : tLstD ta σ H Q :=
  sx_dv (DV.lst h hz) e fun v B' H' n dv => by
    obtain ⟨p, xs, rfl, hs, hd⟩ := Dp.lst_v dv
    exact q p xs B' H' n hs hd
def lates : List (List Int) := [[0 - 3], [0 - 1], [0 - 2, 0 - 3, 0 - 3], [0 - 2, 0 - 1]]
theorem lates_none {tbl : List (List Int)} {wn : Nat} : ∀ e ∈ lates, goes tbl wn s0 [0] e = none := by
  intro e he
  simp only [lates, List.mem_cons, List.not_mem_nil, or_false] at he
  rcases he with rfl | rfl | rfl | rfl <;> rfl
def ringT : List (List Int) := [[1], [2], [0]]
theorem ring_ok : TblOk ringT 1 3 := ⟨rfl, by decide⟩
theorem ring1 : ∃ s, goes ringT 1 s0 [0] [0, 0 - 2, 0, 0, 0 - 2, 0 - 3, 0 - 3, 0 - 2, 0 - 1, 0] = some (s, [0, 1, 1, 2, 0, 0, 0, 1, 1, 0, 1]) ∧ s.plain = [0, 0, 0, 0 - 1, 0 - 1, 0 - 1, 0] := ⟨_, rfl, rfl⟩
theorem ring2 : goes ringT 1 s0 [0] [0, 0 - 2, 0 - 1, 0 - 3] = none := rfl
theorem ring3 : ∃ s, goes ringT 1 s0 [0] [0 - 2, 0 - 2, 0, 0 - 3, 0 - 3] = some (s, [0, 0, 0, 1, 0, 0]) := ⟨_, rfl⟩
theorem ring4 : goes ringT 1 s0 [0] [] = some (s0, [0]) := rfl
theorem at_lastD {l : List Int} (h : l ≠ []) : atI (iD l) (0 - 1) = some (.int (lastI l)) := by
  obtain ⟨r, z, rfl⟩ := snoc_of h
  rw [last_snoc]
  show atI (iD (r ++ [z])) (-1) = _
  unfold iD
  rw [List.map_append]
  exact atI_end
theorem iV_set (l : List Int) (j : Nat) (x : Int) : (iV l).set j (.int x) = iV (l.set j x) := by
  unfold iV
  rw [List.map_set]
theorem tup_at {K : PySem.W.Frag} {B : Hp} {p : Addr} {es : List Int} (h : Dp K B (.ref p) (.tuple (iD es))) : SqT K B p (iV es) := by
  obtain ⟨q, xs, e, hs, hd⟩ := Dp.tup_v h
  cases e
  rw [← ints_of hd]
  exact hs
theorem ixN_of {n j : Nat} (h : j < n) : L2.ixN n (j : Int) = some j := by
  unfold L2.ixN
  rw [if_pos (by omega), if_pos (by omega)]
  rfl
theorem app3 (xs ys : List Int) (c : Int) : iV xs ++ [V.int c] ++ iV ys = iV (xs ++ [c] ++ ys) := by simp [iV]
end
end C
namespace C
open PySem L2 G
section
variable {P : Program} {w : World} {K : PySem.W.Frag} {mg : Str → Option Value} {base : Heap}
theorem ok_law (T : Txt w K mg) : Has P w K mg base "law" s_law 11 ["script"] (spLaw K) := by
  refine has_mk T.d_law sc_law (fun _ _ _ _ _ _ us hl => match us, hl with | [_], _ => rfl) (fun vs H Q E h => ?_) (fun f cdv A outer s' H vs Q E hr h => ?_)
  · obtain ⟨_, _, rfl, _⟩ := h
    rfl
  · obtain ⟨a, is, rfl, hS, hz, k⟩ := h
    refine ⟨_, (pss_cons (ps_par (i := 1) (j := 2) (by rfl) sc_law.nd rfl rfl (by decide) rfl rfl (pa_cons (pe_callH (ok_law_deal T) hr (by rfl) (pa_cons (pv 0) (pa_cons pe_int pa_nil))) (pa_cons (pe_lst pa_nil) pa_nil)) (by rfl))
      (pss_cons (ps_for PassesOwn.never rfl (pi_range1 (by rfl) T.b_range (pa_cons pe_int pa_nil)) (pg_name (i := 3) sc_law.nd rfl (.inl rfl))
      (pss_cons (ps_asg (pe_callH (ok_law_all_let T) hr (by rfl) (pa_cons (pv 1) (pa_cons pe_int (pa_cons pe_int pa_nil)))) (pg_tup (by rfl) (pgs_cons (pg_name (i := 4) sc_law.nd rfl (.inl rfl)) (pgs_cons (pg_name (i := 5) sc_law.nd rfl (.inl rfl)) (pgs_cons (pg_name (i := 6) sc_law.nd rfl (.inl rfl)) pgs_nil)))))
      (pss_cons (ps_par (i := 7) (j := 8) (by rfl) sc_law.nd rfl rfl (by decide) rfl rfl (pa_cons (pe_callB cl_len (by rfl) T.b_len (by decide +kernel) (pa_cons (pv 5) pa_nil)) (pa_cons (pe_lc (own := [("row", 9)]) (g := (gName 9)) rfl sc_law.nd (pi_tup (pe_fld (pv 4) rfl)) (blkOk_by (own := [("row", 9)]) (N := ["script", "deal", "pairs", "turn", "machine", "columns", "kinds", "width", "table", "row", "events", "due", "told", "plain", "walked", "bad", "at", "late", "ring", "run"]) (sc := defScope s_law) (by decide +kernel)) (fun _ _ _ _ _ => pg_name (i := 9) sc_law.nd rfl (.inl rfl)) (fun _ _ _ _ _ => pts_nil) (fun _ _ _ _ _ => (pe_callTy (G.k_list (K := K) rfl) (by rfl) T.b_list (by decide +kernel) (pa_cons (pv 9) pa_nil)))) pa_nil)) (by rfl))
      (G.pss_cut (ps_if (pt_cmpR op_gt (pv 3) pe_int (nomark _))
      (pss_cons (ps_asg (pe_op op_sub pe_int pe_int) (pg_sub (pe_ix ix_list (pv 8) (pe_callH (ok_law_any T) hr (by rfl) (pa_cons (pv 1) (pa_cons (pe_callB cl_len (by rfl) T.b_len (by decide +kernel) (pa_cons (pv 8) pa_nil)) pa_nil))) (fun _ _ => rfl)) (pe_op op_add pe_int (pe_callH (ok_law_any T) hr (by rfl) (pa_cons (pv 1) (pa_cons (pe_op op_sub (pv 7) pe_int) pa_nil)))) set_list))
      (pss_one (ps_set (i := 4) sc_law.nd rfl (.inl rfl) (pe_makeH (ok_Machine___init__ T) T.c_Machine hr (by rfl) (pa_cons (pe_fld (pv 4) rfl) (pa_cons (pe_fld (pv 4) rfl) (pa_cons pe_int (pa_cons (pe_fld (pv 4) rfl) (pa_cons (pe_fld (pv 4) rfl) (pa_cons (pe_callTy cl_tupleF (by rfl) T.b_tuple (by decide +kernel) (pa_cons (pe_lc (own := [("row", 9)]) (g := (gName 9)) rfl sc_law.nd (pi_list (pv 8)) (blkOk_by (own := [("row", 9)]) (N := ["script", "deal", "pairs", "turn", "machine", "columns", "kinds", "width", "table", "row", "events", "due", "told", "plain", "walked", "bad", "at", "late", "ring", "run"]) (sc := defScope s_law) (by decide +kernel)) (fun _ _ _ _ _ => pg_name (i := 9) sc_law.nd rfl (.inl rfl)) (fun _ _ _ _ _ => pts_nil) (fun _ _ _ _ _ => (pe_callTy (G.k_tupleF (K := K) rfl) (by rfl) T.b_tuple (by decide +kernel) (pa_cons (pv 9) pa_nil)))) pa_nil)) pa_nil))))))))))
      pss_nil)
      (pss_cons (ps_set (i := 10) sc_law.nd rfl (.inl rfl) (pe_callH (ok_law_mark_events T) hr (by rfl) (pa_cons (pv 1) (pa_cons (pv 8) (pa_cons (pv 7) (pa_cons (pe_op op_add pe_int (pe_callH (ok_law_any T) hr (by rfl) (pa_cons (pv 1) (pa_cons pe_int pa_nil)))) pa_nil))))))
      (pss_cons (ps_set (i := 11) sc_law.nd rfl (.inl rfl) (pe_callH (ok_law_marked T) hr (by rfl) (pa_cons (pv 8) (pa_cons (pv 7) (pa_cons (pv 10) pa_nil)))))
      (G.pss_cut (ps_set (i := 12) sc_law.nd rfl (.inl rfl) (pe_ifExp (pt_cmpR op_gt (pv 3) pe_int (nomark _)) (pe_callH (ok_marked_run T) hr (by rfl) (pa_cons (pv 4) (pa_cons (pe_callTy cl_tupleF (by rfl) T.b_tuple (by decide +kernel) (pa_cons (pv 10) pa_nil)) pa_nil))) (pe_callK0H (ok_marked_run T) (kb_swap (fun _ _ _ _ _ _ _ _ => rfl)) hr (by rfl) (pk_cons (pe_callTy cl_tupleF (by rfl) T.b_tuple (by decide +kernel) (pa_cons (pv 10) pa_nil)) (pk_cons (pv 4) pk_nil)))))
      (G.pss_cut (ps_set (i := 13) sc_law.nd rfl (.inl rfl) (pe_ifExp (pt_cmpR op_gt (pv 3) pe_int (nomark _)) (pe_callH (ok_plain_events T) hr (by rfl) (pa_cons (pv 4) (pa_cons (pe_callTy cl_tupleF (by rfl) T.b_tuple (by decide +kernel) (pa_cons (pv 10) pa_nil)) pa_nil))) (pe_callK0H (ok_plain_events T) (kb_swap (fun _ _ _ _ _ _ _ _ => rfl)) hr (by rfl) (pk_cons (pe_callTy cl_tupleF (by rfl) T.b_tuple (by decide +kernel) (pa_cons (pv 10) pa_nil)) (pk_cons (pv 4) pk_nil)))))
      (pss_cons (ps_set (i := 2) sc_law.nd rfl (.inl rfl) (pe_op op_cat (pv 2) (pe_lst (pa_cons (pe_tupD (pa_cons (pv 12) (pa_cons (pe_ix ix_tup (pv 11) pe_int (fun _ _ => rfl)) pa_nil))) (pa_cons (pe_tup (pa_cons (pv 13) (pa_cons (pe_ix ix_tup (pv 11) pe_int (fun _ _ => rfl)) pa_nil))) pa_nil)))))
      (pss_cons (ps_set (i := 14) sc_law.nd rfl (.inl rfl) (pe_callH (ok_gone T) hr (by rfl) (pa_cons (pv 4) (pa_cons (pe_ix ix_tup (pv 11) pe_int (fun _ _ => rfl)) pa_nil))))
      (pss_cons (ps_expr (pe_bm PySem.F.plainAttrs_list PySem.F.slot_list_append PySem.F.type_list_append mt_append (pv 2) (pa_cons (pe_tup (pa_cons (pe_ifExp (pt_val (pe_callB call_isi (by rfl) T.b_isinstance (by decide +kernel) (pa_cons (pv 14) (pa_cons (pe_bT (n := "tuple") (by rfl) T.b_tuple (by decide +kernel)) pa_nil)))) (pe_ix ix_tup (pv 14) (pe_op op_sub pe_int pe_int) (fun _ _ => rfl)) pe_non) (pa_cons (pe_ix ix_tup (pe_ix ix_tup (pv 11) pe_int (fun _ _ => rfl)) (pe_op op_sub pe_int pe_int) (fun _ _ => rfl)) pa_nil))) pa_nil)))
      (pss_cons (ps_for PassesOwn.never rfl (pi_list (pe_lst (pa_cons (pe_op op_sub pe_int pe_int) (pa_cons (pv 7) (pa_cons (pe_op op_add (pv 7) pe_int) pa_nil))))) (pg_name (i := 15) sc_law.nd rfl (.inl rfl))
      (pss_cons (ps_set (i := 16) sc_law.nd rfl (.inl rfl) (pe_callH (ok_law_any T) hr (by rfl) (pa_cons (pv 1) (pa_cons (pe_op op_add (pe_callB cl_len (by rfl) T.b_len (by decide +kernel) (pa_cons (pv 10) pa_nil)) pe_int) pa_nil))))
      (pss_cons (ps_set (i := 17) sc_law.nd rfl (.inl rfl) (pe_callTy cl_tupleF (by rfl) T.b_tuple (by decide +kernel) (pa_cons (pe_op op_cat (pe_op op_cat (pe_slice sl_list (pv 10) po_none (po_some (pv 16))) (pe_lst (pa_cons (pv 15) pa_nil))) (pe_slice sl_list (pv 10) (po_some (pv 16)) po_none)) pa_nil)))
      (pss_one (ps_set (i := 2) sc_law.nd rfl (.inl rfl) (pe_op op_cat (pv 2) (pe_lst (pa_cons (pe_tup (pa_cons (pe_callH (ok_marked_run T) hr (by rfl) (pa_cons (pv 4) (pa_cons (pv 17) pa_nil))) (pa_cons pe_non pa_nil))) (pa_cons (pe_tup (pa_cons (pe_callH (ok_plain_events T) hr (by rfl) (pa_cons (pv 4) (pa_cons (pv 17) pa_nil))) (pa_cons pe_non pa_nil))) pa_nil)))))))))
      (pss_one (ps_for PassesOwn.never rfl (pi_list (pe_lstD (pa_cons (pe_tup (pa_cons (pe_op op_sub pe_int pe_int) pa_nil)) (pa_cons (pe_tup (pa_cons (pe_op op_sub pe_int pe_int) pa_nil)) (pa_cons (pe_tup (pa_cons (pe_op op_sub pe_int pe_int) (pa_cons (pe_op op_sub pe_int pe_int) (pa_cons (pe_op op_sub pe_int pe_int) pa_nil)))) (pa_cons (pe_tup (pa_cons (pe_op op_sub pe_int pe_int) (pa_cons (pe_op op_sub pe_int pe_int) pa_nil))) pa_nil)))))) (pg_name (i := 17) sc_law.nd rfl (.inl rfl))
      (pss_one (ps_set (i := 2) sc_law.nd rfl (.inl rfl) (pe_op op_cat (pv 2) (pe_lst (pa_cons (pe_tup (pa_cons (pe_callH (ok_marked_run T) hr (by rfl) (pa_cons (pv 4) (pa_cons (pv 17) pa_nil))) (pa_cons pe_non pa_nil))) (pa_cons (pe_tup (pa_cons (pe_callH (ok_plain_events T) hr (by rfl) (pa_cons (pv 4) (pa_cons (pv 17) pa_nil))) (pa_cons pe_non pa_nil))) pa_nil))))))))))))))))))))
      (pss_cons (ps_set (i := 18) sc_law.nd rfl (.inl rfl) (pe_makeH (ok_Machine___init__ T) T.c_Machine hr (by rfl) (pa_cons (pe_tupD (pa_cons pe_str (pa_cons pe_str (pa_cons pe_str pa_nil)))) (pa_cons (pe_tupD (pa_cons pe_str (pa_cons pe_str (pa_cons pe_str pa_nil)))) (pa_cons pe_int (pa_cons (pe_tupD (pa_cons pe_str pa_nil)) (pa_cons (pe_tupD (pa_cons pe_str pa_nil)) (pa_cons (pe_tupD (pa_cons (pe_tup (pa_cons pe_int pa_nil)) (pa_cons (pe_tup (pa_cons pe_int pa_nil)) (pa_cons (pe_tup (pa_cons pe_int pa_nil)) pa_nil)))) pa_nil))))))))
      (pss_cons (ps_set (i := 19) sc_law.nd rfl (.inl rfl) (pe_tupD (pa_cons pe_int (pa_cons (pe_op op_sub pe_int pe_int) (pa_cons pe_int (pa_cons pe_int (pa_cons (pe_op op_sub pe_int pe_int) (pa_cons (pe_op op_sub pe_int pe_int) (pa_cons (pe_op op_sub pe_int pe_int) (pa_cons (pe_op op_sub pe_int pe_int) (pa_cons (pe_op op_sub pe_int pe_int) (pa_cons pe_int pa_nil))))))))))))
      (pss_cons (ps_set (i := 2) sc_law.nd rfl (.inl rfl) (pe_op op_cat (pv 2) (pe_lst (pa_cons (pe_tup (pa_cons (pe_callH (ok_marked_run T) hr (by rfl) (pa_cons (pv 18) (pa_cons (pv 19) pa_nil))) (pa_cons (pe_tupD (pa_cons pe_int (pa_cons pe_int (pa_cons pe_int (pa_cons pe_int (pa_cons pe_int (pa_cons pe_int (pa_cons pe_int (pa_cons pe_int (pa_cons pe_int (pa_cons pe_int (pa_cons pe_int pa_nil)))))))))))) pa_nil))) (pa_cons (pe_tup (pa_cons (pe_callH (ok_plain_events T) hr (by rfl) (pa_cons (pv 18) (pa_cons (pv 19) pa_nil))) (pa_cons (pe_tupD (pa_cons pe_int (pa_cons pe_int (pa_cons pe_int (pa_cons (pe_op op_sub pe_int pe_int) (pa_cons (pe_op op_sub pe_int pe_int) (pa_cons (pe_op op_sub pe_int pe_int) (pa_cons pe_int pa_nil)))))))) pa_nil))) pa_nil)))))
      (pss_one (ps_ret (pe_callH (ok_law_all T) hr (by rfl) (pa_cons (pe_op op_cat (pv 2) (pe_lst (pa_cons (pe_tup (pa_cons (pe_callH (ok_marked_run T) hr (by rfl) (pa_cons (pv 18) (pa_cons (pe_tupD (pa_cons pe_int (pa_cons (pe_op op_sub pe_int pe_int) (pa_cons (pe_op op_sub pe_int pe_int) (pa_cons (pe_op op_sub pe_int pe_int) pa_nil))))) pa_nil))) (pa_cons pe_non pa_nil))) (pa_cons (pe_tup (pa_cons (pe_callH (ok_marked_run T) hr (by rfl) (pa_cons (pv 18) (pa_cons (pe_tupD (pa_cons (pe_op op_sub pe_int pe_int) (pa_cons (pe_op op_sub pe_int pe_int) (pa_cons pe_int (pa_cons (pe_op op_sub pe_int pe_int) (pa_cons (pe_op op_sub pe_int pe_int) pa_nil)))))) pa_nil))) (pa_cons (pe_tupD (pa_cons pe_int (pa_cons pe_int (pa_cons pe_int (pa_cons pe_int (pa_cons pe_int (pa_cons pe_int pa_nil))))))) pa_nil))) (pa_cons (pe_tup (pa_cons (pe_callH (ok_plain_events T) hr (by rfl) (pa_cons (pv 18) (pa_cons (pe_tup pa_nil) pa_nil))) (pa_cons (pe_tup pa_nil) pa_nil))) pa_nil))))) pa_nil))))))))), ?_⟩
    walk_at "go"
    refine ⟨fun _ => none, a, is, 34, rfl, (fun _ _ h => by cases h), hS, hz, by decide, by decide, fun B1 H1 d l n1 D1 => ?_⟩
    walk_at "sx"
    refine sx_newM n1.h (by simp) fun L H2 hL n2 m2 => ?_
    have D2 := D1.up n2
    have off := D1.off hL
    walk_at "sx"
    refine sx_forR_by (n := 6) (by omega) (fun i σ H' => ∃ (B' : Hp) (L : Addr) (xs : List V) (y3 y4 y5 y6 y7 y8 y9 y10 y11 y12 y13 y14 y15 y16 y17 y18 y19 : Option V), σ = [some (.ref a), some (.ref d), some (.ref L), y3, y4, y5, y6, y7, y8, y9, y10, y11, y12, y13, y14, y15, y16, y17, y18, y19] ∧ Ex B' H' ∧ Deal B' H' d l ∧ (L ≠ d ∧ L ≠ l) ∧ Mu B' H' L xs ∧ (∀ x ∈ xs, PairOk K B' x) ∧ xs.length ≤ 17 * i) ?_ (fun i σ H3 hi p => ?_) (fun σ H3 p => ?_)
    · exact ⟨B1, L, [], _, _, _, _, _, _, _, _, _, _, _, _, _, _, _, _, _, rfl, n2.h, D2, off, m2, by simp, by simp⟩
    · clear D2 m2 n2 off hL
      obtain ⟨B3, L, xs, y3, y4, y5, y6, y7, y8, y9, y10, y11, y12, y13, y14, y15, y16, y17, y18, y19, rfl, e3, D3, off, m3, p3, l3⟩ := p
      refine sx_gname ?_
      walk_at "st"
      walk_at "sx"
      refine ⟨B3, d, l, 4, 2, rfl, e3, D3, by decide, by decide, by decide, by decide, fun B4 H4 p mv cv kv cols n ks n4 D4 hp dcv cok c2 c10 dkv M4 hn2 hn10 => ?_⟩
      refine ⟨p, _, rfl, n4.h.t hp, rfl, _, _, rfl, _, _, rfl, _, _, rfl, ?_⟩
      walk_at "sx"
      show gNil [] _ _ _
      refine ⟨rfl, ?_⟩
      walk_at "st"
      walk_at "sx"
      have m4 := m3.up n4 (by simp [off.1, off.2])
      have p4 : ∀ x ∈ xs, PairOk K B4 x := fun x hx => (p3 x hx).up n4.b
      refine sx_lenLd dcv n4.h ?_
      have lcol : (colsD cols).length = cols.length := by simp [colsD]
      rw [lcol]
      obtain ⟨wn, hwn⟩ : ∃ wn, wn = cols.length := ⟨_, rfl⟩
      rw [← hwn] at c2 c10 M4 ⊢
      have T4 := tblOf_ok cok
      rw [← hwn] at T4
      have z4 := tblOf_col0 cok
      obtain ⟨tbl, htb⟩ : ∃ tbl, tbl = tblOf cols n := ⟨_, rfl⟩
      rw [← htb] at T4 z4 M4
      clear htb
      obtain ⟨ma, v1, v2, v4, v5, v6, cds, rfl, im, dc, lc, dt⟩ := M4.ex
      walk_at "sx"
      obtain ⟨ta, txs, rfl, hts, htd⟩ := Dp.tup_v dt
      refine sx_lcT_by (n4.h.t hts) (fun Tb j H' => TB d l Tb (tbl.take j) B4 H4 B4 H' ∧ Deal B4 H' d l) (fun Tb hT => ?_) (fun Tb j H' _ p => ?_) (fun Tb j x H5 hj p => ?_) (fun Tb H5 p => ?_)
      · exact ⟨TB.begin n4.h D4 hT, D4.up (Nx.own (M := []) n4.h hT)⟩
      · exact p.1.e.t hts
      · obtain ⟨t5, D5⟩ := p
        obtain ⟨dv, hdv, hx⟩ := Dps.got htd hj
        rw [List.getElem?_map] at hdv
        obtain ⟨r, hr, rfl⟩ : ∃ r, tbl[j]? = some r ∧ PyData.tuple (iD r) = dv := by
          cases z : tbl[j]? with
          | none => rw [z] at hdv; cases hdv
          | some r => rw [z] at hdv; exact ⟨r, rfl, Option.some.inj hdv⟩
        obtain ⟨ra, rxs, rfl, hra, hrd⟩ := Dp.tup_v hx
        have er := ints_of hrd
        subst er
        refine sx_gname ?_
        walk_at "st"
        refine ⟨trivial, ?_⟩
        walk_at "sx"
        refine iteT ?_
        walk_at "sx"
        refine sx_listOf t5.e (.inr (t5.e.t hra)) fun q H6 hq n6 m6 => ?_
        rw [List.take_add_one, hr]
        exact t5.add D5 hq n6 m6 (by rw [List.length_take]; have := T4.len; omega)
      · obtain ⟨t5, D5⟩ := p
        have ltx : txs.length = tbl.length := by have := Dps.len htd; simpa using this
        rw [ltx, List.take_length] at t5
        walk_at "sx"
        walk_at "st"
        refine G.sx_cut (fun σ H' => ∃ (B' : Hp) (mv : V) (tbl : List (List Int)) (y9 y10 y11 y12 y13 y14 y15 y16 y17 y18 y19 : Option V), σ = [some (.ref a), some (.ref d), some (.ref L), some (.int i), some mv, some cv, some kv, some (.int wn), some (.ref Tb), y9, y10, y11, y12, y13, y14, y15, y16, y17, y18, y19] ∧ TB d l Tb tbl B4 H4 B' H' ∧ Deal B' H' d l ∧ MachD K mg B' mv tbl wn ∧ TblOk tbl wn n ∧ ∀ s : Int, 0 ≤ s → s < (n : Int) → 0 ≤ cell tbl s 0) ?_ ?_
        · walk_at "sx"
          by_cases h2 : (2 : Int) < i
          · refine ifT (dT h2) ?_
            walk_at "sx"
            obtain ⟨xt, mt, lt⟩ := t5.len
            refine sx_lenL mt.sq ?_
            walk_at "sx"
            have ltb := T4.len
            refine ⟨B4, d, l, _, rfl, t5.e, D5, by omega, by omega, fun B6 H6 r n6 D6 r0 r1 => ?_⟩
            have t6 := t5.upM n6 D6
            obtain ⟨ri, rfl⟩ : ∃ ri : Nat, r = (ri : Int) := ⟨r.toNat, by omega⟩
            have hri : ri < tbl.length := by omega
            obtain ⟨row, hrow⟩ : ∃ row, tbl[ri]? = some row := ⟨_, List.getElem?_eq_getElem hri⟩
            obtain ⟨xt6, q, mt6, hq6, oq, put⟩ := t6.at hrow
            walk_at "sx"
            refine sx_ixL mt6.sq (atI_nat hq6) ?_
            walk_at "sx"
            refine ⟨B6, d, l, _, rfl, t6.e, D6, by omega, by omega, fun B7 H7 s n7 D7 s0 s1 => ?_⟩
            obtain ⟨mq7, put7⟩ := put B7 H7 n7 D7
            obtain ⟨j, hj, hj1, hj2⟩ : ∃ j : Nat, 1 + s = (j : Int) ∧ 1 ≤ j ∧ j < wn := ⟨(1 + s).toNat, by omega, by omega, by omega⟩
            walk_at "sx"
            rw [hj]
            have lrow := (T4.row row (List.mem_of_getElem? hrow)).1
            refine sx_setL mq7 n7.h (ixN_of (by rw [iV_len]; omega)) fun H8 n8 m8 => ?_
            have t8 := put7 H8 (row.set j (0 - 1)) n8 (by rw [← iV_set]; exact m8)
            have D8 := D7.up n8 (by simp [oq.1.symm, oq.2.symm])
            have e47 := n6.b.trans n7.b
            have im8 := im.up e47
            have e8 : Ex B7 H8 := t8.e
            clear im mt mt6 mq7
            walk_at "sx"
            refine t8.tup D8 (by rw [List.length_set]; omega) (fun _ => rfl) (fun _ => rfl) fun C cs B9 H9 t9 D9 e9 mC dC => ?_
            walk_at "sx"
            refine sx_tupL t9.e mC.sq dC fun pt B10 H10 hpt n10 dpt => ?_
            have t10 := t9.up n10
            have D10 := D9.up n10
            walk_at "sx"
            refine sx_mkF T.c_Machine n10.h (by rfl) fun a' B11 H11 ha n11 ia => ?_
            have t11 := t10.up n11
            have D11 := D10.up n11
            walk_at "sx"
            walk_at "st"
            exact ⟨B11, .ref a', _, _, _, _, _, _, _, _, _, _, _, _, rfl, t11, D11, ⟨a', _, _, _, _, _, cds, rfl, ia, Dp.up (e47.trans (e9.trans (n10.b.trans n11.b))) dc, lc, Dp.up n11.b dpt⟩, set_ok T4 hrow, fun s h0 h1 => by rw [set_col0 hrow hj1]; exact z4 s h0 h1⟩
          · refine ifF (dF h2) ?_
            walk_at "sx"
            exact ⟨B4, .ref ma, tbl, _, _, _, _, _, _, _, _, _, _, _, rfl, t5, D5, M4, T4, z4⟩
        · rintro σ H5 ⟨B5, mv, tbl, y9, y10, y11, y12, y13, y14, y15, y16, y17, y18, y19, rfl, t5, D5, M5, T5, z5⟩
          obtain ⟨B6, n6, D6, e6, dtb⟩ := t5.frz K D5
          have lm : LM K mg d l L mv tbl wn (17 * i) B6 H5 := ⟨⟨xs, m4.up n6 (by simp [off.1, off.2]), fun x hx => (p4 x hx).up n6.b, l3⟩, n6.h, D6, M5.up e6, off⟩
          have n0 : 0 < n := by omega
          clear off m3 p3 l3 m4 p4 D4 D5 D6 M4 T4 z4 im dc dt hts htd n4 e3 D3 cok dcv dkv t5
          clear e6
          walk_at "sx"
          refine ⟨B6, d, l, 20, rfl, lm.e, lm.D, by decide, by decide, fun B7 H7 r n7 D7 r0 r1 => ?_⟩
          have lm := lm.upD n7 D7
          have dtb := Dp.up n7.b dtb
          obtain ⟨mm, hmm⟩ : ∃ mm : Nat, 6 + r = (mm : Int) := ⟨(6 + r).toNat, by omega⟩
          walk_at "sx"
          rw [hmm]
          refine ⟨B7, d, l, .ref Tb, tbl, wn, n, mm, rfl, lm.e, lm.D, dtb, T5, n0, by omega, by omega, z5, by omega, fun B8 H8 EL es s f n8 D8 hEL mE lE hg => ?_⟩
          have oE := D7.off hEL
          have oL := lm.ne hEL
          have lm := (lm.upD n8 D8).frz mE oL oE
          have dtb : Dp K (upd B8 EL (.lst (iV es))) (.ref Tb) (tblL tbl) := Dp.up (n8.b.trans (Ex.new mE.b)) dtb
          have hev : SqL K (upd B8 EL (.lst (iV es))) EL (iV es) := SqL.of upd_same
          have les : es.length ≤ 60 := by omega
          obtain ⟨fp, g1, g2, g3⟩ := goes_plain T5 (s0_ok n0) hg rfl (by simp [s0]) rfl
          obtain ⟨f0, f1⟩ := goes_last (f := [0]) (by simp) rfl hg
          obtain ⟨lp, lf⟩ := goes_len hg
          have lp : s.plain.length ≤ 200 := by simp [s0] at lp; omega
          have lf : f.length ≤ 200 := by simp at lf; omega
          generalize upd B8 EL (.lst (iV es)) = B9 at *
          clear mE hEL D8 n8 D7 n7 n6
          walk_at "sx"
          walk_at "st"
          walk_at "sx"
          refine ⟨B9, .ref Tb, EL, tbl, wn, n, es, rfl, lm.e, dtb, T5, n0, lm.e.l hev, by omega, fun B10 H10 due n10 ddue => ?_⟩
          have lm := lm.up0 n10
          have hev := n10.b.l hev
          rw [hg] at ddue
          have ddue : Dp K B10 due (.tuple [.tuple (iD f), .tuple (iD s.plain)]) := ddue
          clear dtb n10
          walk_at "sx"
          walk_at "st"
          refine G.sx_cut (fun σ H' => ∃ (B' : Hp) (told : V) (y13 y14 y15 y16 y17 y18 y19 : Option V), σ = [some (.ref a), some (.ref d), some (.ref L), some (.int i), some mv, some cv, some kv, some (.int wn), some (.ref Tb), y9, some (.ref EL), some due, some told, y13, y14, y15, y16, y17, y18, y19] ∧ LM K mg d l L mv tbl wn (17 * i) B' H' ∧ SqL K B' EL (iV es) ∧ Dp K B' due (.tuple [.tuple (iD f), .tuple (iD s.plain)]) ∧ Dp K B' told (.tuple (iD f))) ?_ ?_
          · walk_at "sx"
            by_cases h0 : (0 : Int) < i
            · refine ifT (dT h0) ?_
              walk_at "sx"
              refine sx_tupL lm.e (lm.e.l hev) (ints_d es) fun pe B11 H11 hpe n11 de => ?_
              have lm := lm.up0 n11
              walk_at "sx"
              refine lm.run T5 n0 (tup_at de) (by omega) fun B12 H12 v n12 lm dv => ?_
              have e912 := n11.b.trans n12.b
              rw [hg] at dv
              exact ⟨B12, v, _, _, _, _, _, _, _, rfl, lm, e912.l hev, Dp.up e912 ddue, dv⟩
            · refine ifF (dF h0) ?_
              walk_at "sx"
              refine sx_tupL lm.e (lm.e.l hev) (ints_d es) fun pe B11 H11 hpe n11 de => ?_
              have lm := lm.up0 n11
              walk_at "sx"
              show spRun K mg mD [mv, .ref pe] _ _ _
              refine lm.run T5 n0 (tup_at de) (by omega) fun B12 H12 v n12 lm dv => ?_
              have e912 := n11.b.trans n12.b
              rw [hg] at dv
              exact ⟨B12, v, _, _, _, _, _, _, _, rfl, lm, e912.l hev, Dp.up e912 ddue, dv⟩
          · rintro σ H10 ⟨B10, told, y13, y14, y15, y16, y17, y18, y19, rfl, lm, hev, ddue, dtold⟩
            refine G.sx_cut (fun σ H' => ∃ (B' : Hp) (plain : V) (y14 y15 y16 y17 y18 y19 : Option V), σ = [some (.ref a), some (.ref d), some (.ref L), some (.int i), some mv, some cv, some kv, some (.int wn), some (.ref Tb), y9, some (.ref EL), some due, some told, some plain, y14, y15, y16, y17, y18, y19] ∧ LM K mg d l L mv tbl wn (17 * i) B' H' ∧ SqL K B' EL (iV es) ∧ Dp K B' due (.tuple [.tuple (iD f), .tuple (iD s.plain)]) ∧ Dp K B' told (.tuple (iD f)) ∧ Dp K B' plain (.tuple (iD s.plain))) ?_ ?_
            · walk_at "sx"
              by_cases h0 : (0 : Int) < i
              · refine ifT (dT h0) ?_
                walk_at "sx"
                refine sx_tupL lm.e (lm.e.l hev) (ints_d es) fun pe B11 H11 hpe n11 de => ?_
                have lm := lm.up0 n11
                walk_at "sx"
                refine lm.run T5 n0 (tup_at de) (by omega) fun B12 H12 v n12 lm dv => ?_
                have e912 := n11.b.trans n12.b
                rw [hg] at dv
                exact ⟨B12, v, _, _, _, _, _, _, rfl, lm, e912.l hev, Dp.up e912 ddue, Dp.up e912 dtold, dv⟩
              · refine ifF (dF h0) ?_
                walk_at "sx"
                refine sx_tupL lm.e (lm.e.l hev) (ints_d es) fun pe B11 H11 hpe n11 de => ?_
                have lm := lm.up0 n11
                walk_at "sx"
                show spRun K mg pD [mv, .ref pe] _ _ _
                refine lm.run T5 n0 (tup_at de) (by omega) fun B12 H12 v n12 lm dv => ?_
                have e912 := n11.b.trans n12.b
                rw [hg] at dv
                exact ⟨B12, v, _, _, _, _, _, _, rfl, lm, e912.l hev, Dp.up e912 ddue, Dp.up e912 dtold, dv⟩
            · rintro σ H11 ⟨B11, plain, y14, y15, y16, y17, y18, y19, rfl, lm, hev, ddue, dtold, dplain⟩
              walk_at "sx"
              refine sx_tupD (K := K) (B := B11) (ds := [.tuple (iD f), .tuple (iD f)]) (by walk_at "dv") lm.e (by simp) fun p1 B12 H12 n12 d1 => ?_
              have lm := lm.up0 n12
              have hev := n12.b.l hev
              have ddue := Dp.up n12.b ddue
              have dplain := Dp.up n12.b dplain
              obtain ⟨q1, _, rfl, _, _⟩ := Dp.tup_v d1
              clear dtold
              walk_at "sx"
              refine sx_ixTd ddue lm.e rfl fun u1 hu1 => ?_
              walk_at "sx"
              refine sx_newT (K := K) lm.e (.cons dplain (.cons hu1 .nil)) (by simp) fun p2 B13 H13 hp2 n13 d2 => ?_
              have lm := lm.up0 n13
              have hev := n13.b.l hev
              have ddue := Dp.up n13.b ddue
              have d1 := Dp.up n13.b d1
              walk_at "sx"
              refine lm.cat (by omega) (by simp) (fun v hv => ?_) fun L14 H14 n14 lm => ?_
              · simp only [List.mem_cons, List.not_mem_nil, or_false] at hv
                rcases hv with rfl | rfl
                · exact pair_of d1 (okN_ints (by omega) 7)
                · exact pair_of d2 (okN_ints (by omega) 7)
              clear d1 d2 hu1 dplain n12 n13 n14
              walk_at "sx"
              walk_at "st"
              walk_at "sx"
              refine sx_ixTd ddue lm.e rfl fun u2 hu2 => ?_
              obtain ⟨a2, _, rfl, _, _⟩ := Dp.tup_v hu2
              walk_at "sx"
              refine ⟨B13, mv, a2, tbl, wn, n, s.plain, rfl, lm.e, lm.M, T5, n0, tup_at hu2, by omega, fun B15 H15 wk n15 dwk => ?_⟩
              have lm := lm.up0 n15
              have hev := n15.b.l hev
              have ddue := Dp.up n15.b ddue
              rw [g1] at dwk
              have dwk : Dp K B15 wk (.tuple (iD fp)) := dwk
              have e15 := lm.e
              walk_at "sx"
              walk_at "st"
              walk_at "sx"
              refine lm.ty ?_
              walk_at "sx"
              refine ifT rfl ?_
              walk_at "sx"
              refine sx_ixTd dwk lm.e (at_lastD g2) fun u3 hu3 => ?_
              cases Dp.int_v hu3
              walk_at "sx"
              refine sx_ixTd ddue lm.e rfl fun u4 hu4 => ?_
              walk_at "sx"
              refine sx_ixTd hu4 lm.e (at_lastD f0) fun u5 hu5 => ?_
              cases Dp.int_v hu5
              rw [g3, f1]
              walk_at "sx"
              refine sx_newT (K := K) lm.e (.cons (.int _) (.cons (.int _) .nil)) (by simp) fun p6 B16 H16 hp6 n16 d6 => ?_
              have hev := n16.b.l hev
              clear e15
              have lm := lm.up0 n16
              walk_at "sx"
              refine lm.add (by simp; omega) (pair_of d6 rfl) fun H17 n17 lm => ?_
              clear hu5 hu4 hu3 dwk hu2 d6 n16 n15 n17 ddue
              walk_at "sx"
              refine sx_newL (K := K) lm.e (.cons (.int _) (.cons (.int _) (.cons (.int _) .nil))) (by simp) fun pb B18 H18 hpb n18 db => ?_
              have lm := lm.up0 n18
              have hev := n18.b.l hev
              obtain ⟨_, _, e, hb, hbd⟩ := Dp.lst_v db
              cases e
              have eb := ints_of (r := [0 - 4, (wn : Int), (wn : Int) + 7]) hbd
              subst eb
              clear hbd db n18
              walk_at "sx"
              refine sx_forL_by (lm.e.l hb) (fun j σ H' => ∃ (B' : Hp) (L : Addr) (y15 y16 y17 y18 y19 : Option V), σ = [some (.ref a), some (.ref d), some (.ref L), some (.int i), some mv, some cv, some kv, some (.int wn), some (.ref Tb), y9, some (.ref EL), some due, some told, some plain, some wk, y15, y16, y17, y18, y19] ∧ LM K mg d l L mv tbl wn (17 * i + 3 + 2 * j) B' H' ∧ SqL K B' EL (iV es) ∧ SqL K B' pb (iV [0 - 4, (wn : Int), (wn : Int) + 7])) ?_ (fun j σ H' _ p => ?_) (fun j x σ H19 hx p => ?_) (fun σ H19 p => ?_)
              · exact ⟨B18, L14, _, _, _, _, _, rfl, lm, hev, hb⟩
              · obtain ⟨_, _, _, _, _, _, _, _, lm, _, hb⟩ := p
                exact lm.e.l hb
              · clear lm hev hb
                obtain ⟨B19, L19, y15, y16, y17, y18, y19, rfl, lm, hev, hb⟩ := p
                obtain ⟨c, hc, rfl⟩ := iV_at hx
                have hj : j < 3 := (List.getElem?_eq_some_iff.mp hc).1
                have hcc : c = -4 ∨ (wn : Int) ≤ c := by
                  have := List.mem_of_getElem? hc
                  simp only [List.mem_cons, List.not_mem_nil, or_false] at this
                  omega
                refine sx_gname ?_
                walk_at "st"
                walk_at "sx"
                refine sx_lenL (lm.e.l hev) ?_
                rw [iV_len]
                walk_at "sx"
                refine ⟨B19, d, l, _, rfl, lm.e, lm.D, by omega, by omega, fun B20 H20 r n20 D20 r0 r1 => ?_⟩
                have lm := lm.upD n20 D20
                have hev := n20.b.l hev
                have hb := n20.b.l hb
                obtain ⟨kk, rfl⟩ : ∃ kk : Nat, r = (kk : Int) := ⟨r.toNat, by omega⟩
                have hkk : kk ≤ es.length := by omega
                walk_at "sx"
                walk_at "st"
                walk_at "sx"
                refine sx_slL lm.e (lm.e.l hev) fun p21 H21 hp21 n21 m21 => ?_
                rw [cut_to, iV_take] at m21
                have lm := lm.up0 n21
                walk_at "sx"
                refine sx_newM lm.e (by simp) fun p22 H22 hp22 n22 m22 => ?_
                have lm := lm.up0 n22
                have m21 := m21.up n22
                refine sx_cat lm.e m21.h m22.h (by rw [iV_len, List.length_take]; simp; omega) fun p23 H23 hp23 n23 m23 => ?_
                have lm := lm.up0 n23
                clear m21 m22
                walk_at "sx"
                refine sx_slL lm.e (lm.e.l hev) fun p24 H24 hp24 n24 m24 => ?_
                rw [cut_from, show (iV es).drop kk = iV (es.drop kk) by simp [iV]] at m24
                have lm := lm.up0 n24
                have m23 := m23.up n24
                refine sx_cat lm.e m23.h m24.h (by simp [iV]; omega) fun p25 H25 hp25 n25 m25 => ?_
                have lm := lm.up0 n25
                rw [app3] at m25
                clear m23 m24 n24 n23 n22 n21 n20
                have hno := goes_bad hg hcc kk
                have hln : (es.take kk ++ [c] ++ es.drop kk).length ≤ 100 := by simp; omega
                generalize es.take kk ++ [c] ++ es.drop kk = bs at *
                walk_at "sx"
                refine sx_tupL lm.e m25.sq (ints_d bs) fun pe B26 H26 hpe n26 de => ?_
                have lm := lm.up0 n26
                have hev := n26.b.l hev
                have hb := n26.b.l hb
                clear m25 n25 n26
                walk_at "sx"
                walk_at "st"
                walk_at "sx"
                refine lm.run T5 n0 (tup_at de) hln fun B27 H27 v27 n27 lm d27 => ?_
                rw [hno] at d27
                have d27 : Dp K B27 v27 .none := d27
                have de := Dp.up n27.b de
                have hev := n27.b.l hev
                have hb := n27.b.l hb
                walk_at "sx"
                refine sx_newT (K := K) lm.e (.cons d27 (.cons .non .nil)) (by simp) fun p28 B28 H28 hp28 n28 d28 => ?_
                have lm := lm.up0 n28
                have de := Dp.up n28.b de
                have hev := n28.b.l hev
                have hb := n28.b.l hb
                walk_at "sx"
                refine lm.run T5 n0 (tup_at de) hln fun B29 H29 v29 n29 lm d29 => ?_
                rw [hno] at d29
                have d29 : Dp K B29 v29 .none := d29
                have hev := n29.b.l hev
                have hb := n29.b.l hb
                walk_at "sx"
                refine sx_newT (K := K) lm.e (.cons d29 (.cons .non .nil)) (by simp) fun p30 B30 H30 hp30 n30 d30 => ?_
                have lm := lm.up0 n30
                have hev := n30.b.l hev
                have hb := n30.b.l hb
                have d28 := Dp.up (n29.b.trans n30.b) d28
                walk_at "sx"
                refine lm.cat (by omega) (by simp) (fun v hv => ?_) fun L31 H31 n31 lm => ?_
                · simp only [List.mem_cons, List.not_mem_nil, or_false] at hv
                  rcases hv with rfl | rfl
                  · exact pair_of d28 rfl
                  · exact pair_of d30 rfl
                walk_at "sx"
                walk_at "st"
                exact ⟨B30, L31, _, _, _, _, _, rfl, lm, hev, hb⟩
              · clear lm hev hb
                obtain ⟨B19, L19, y15, y16, y17, y18, y19, rfl, lm, _, _⟩ := p
                walk_at "sx"
                refine sx_lstDF (K := K) (B := B19) (ds := lates.map fun e => .tuple (iD e)) (by show DVs K _ _ _ [.tuple [.int (0 - 3)], .tuple [.int (0 - 1)], .tuple [.int (0 - 2), .int (0 - 3), .int (0 - 3)], .tuple [.int (0 - 2), .int (0 - 1)]]; walk_at "dv") lm.e (by decide) fun pl xl B20 H20 n20 hs hd => ?_
                have lm := lm.up0 n20
                have lxl := Dps.len hd
                walk_at "sx"
                refine sx_forL_by (lm.e.l hs) (fun j σ H' => ∃ (B' : Hp) (L : Addr) (y17 : Option V), σ = [some (.ref a), some (.ref d), some (.ref L), some (.int i), some mv, some cv, some kv, some (.int wn), some (.ref Tb), y9, some (.ref EL), some due, some told, some plain, some wk, y15, y16, y17, y18, y19] ∧ LM K mg d l L mv tbl wn (17 * i + 9 + 2 * j) B' H' ∧ Ex B20 B') ?_ (fun j σ H' _ p => ?_) (fun j x σ H21 hx p => ?_) (fun σ H21 p => ?_)
                · exact ⟨B20, L19, _, rfl, lm, Ex.refl _⟩
                · obtain ⟨_, _, _, _, lm, eb⟩ := p
                  exact (eb.trans lm.e).l hs
                · clear lm
                  obtain ⟨B21, L21, y17, rfl, lm, eb⟩ := p
                  obtain ⟨dx, hdx, dxv⟩ := Dps.got hd hx
                  rw [List.getElem?_map] at hdx
                  obtain ⟨bs, hbs, rfl⟩ : ∃ bs, lates[j]? = some bs ∧ PyData.tuple (iD bs) = dx := by
                    cases z : lates[j]? with
                    | none => rw [z] at hdx; cases hdx
                    | some r => rw [z] at hdx; exact ⟨r, rfl, Option.some.inj hdx⟩
                  have hj : j < 4 := (List.getElem?_eq_some_iff.mp hbs).1
                  have hbm := List.mem_of_getElem? hbs
                  have hno := lates_none (tbl := tbl) (wn := wn) bs hbm
                  have hln : bs.length ≤ 100 := (by decide : ∀ e ∈ lates, e.length ≤ 100) bs hbm
                  have dxv := Dp.up eb dxv
                  obtain ⟨pe, _, rfl, _, _⟩ := Dp.tup_v dxv
                  refine sx_gname ?_
                  walk_at "st"
                  walk_at "sx"
                  refine lm.run T5 n0 (tup_at dxv) hln fun B27 H27 v27 n27 lm d27 => ?_
                  rw [hno] at d27
                  have d27 : Dp K B27 v27 .none := d27
                  have dxv := Dp.up n27.b dxv
                  walk_at "sx"
                  refine sx_newT (K := K) lm.e (.cons d27 (.cons .non .nil)) (by simp) fun p28 B28 H28 hp28 n28 d28 => ?_
                  have lm := lm.up0 n28
                  have dxv := Dp.up n28.b dxv
                  walk_at "sx"
                  refine lm.run T5 n0 (tup_at dxv) hln fun B29 H29 v29 n29 lm d29 => ?_
                  rw [hno] at d29
                  have d29 : Dp K B29 v29 .none := d29
                  walk_at "sx"
                  refine sx_newT (K := K) lm.e (.cons d29 (.cons .non .nil)) (by simp) fun p30 B30 H30 hp30 n30 d30 => ?_
                  have lm := lm.up0 n30
                  have d28 := Dp.up (n29.b.trans n30.b) d28
                  walk_at "sx"
                  refine lm.cat (by omega) (by simp) (fun v hv => ?_) fun L31 H31 n31 lm => ?_
                  · simp only [List.mem_cons, List.not_mem_nil, or_false] at hv
                    rcases hv with rfl | rfl
                    · exact pair_of d28 rfl
                    · exact pair_of d30 rfl
                  walk_at "sx"
                  walk_at "st"
                  exact ⟨B30, L31, _, rfl, lm, eb.trans (n27.b.trans (n28.b.trans (n29.b.trans n30.b)))⟩
                · clear lm
                  obtain ⟨B21, L21, y17, rfl, lm, eb⟩ := p
                  obtain ⟨zs, z1, z2, z3⟩ := lm.xs
                  have ll : (lates.map fun e => PyData.tuple (iD e)).length = 4 := rfl
                  exact ⟨B21, L21, zs, _, _, _, _, _, _, _, _, _, _, _, _, _, _, _, _, _, rfl, lm.e, lm.D, lm.o, z1, z2, by omega⟩
    · clear D2 m2 n2 off hL
      obtain ⟨B3, L, xs, y3, y4, y5, y6, y7, y8, y9, y10, y11, y12, y13, y14, y15, y16, y17, y18, y19, rfl, e3, D3, off, m3, p3, l3⟩ := p
      walk_at "sx"
      refine sx_tupD (K := K) (B := B3) (ds := [.str "a", .str "b", .str "c"]) (by walk_at "dv") e3 (by simp) fun v1 B4 H4 n4 d1 => ?_
      walk_at "sx"
      refine sx_tupD (K := K) (B := B4) (ds := [.str "x", .str "y", .str "z"]) (by walk_at "dv") n4.h (by simp) fun v2 B5 H5 n5 d2 => ?_
      walk_at "sx"
      refine sx_tupD (K := K) (B := B5) (ds := [.str "go"]) (by walk_at "dv") n5.h (by simp) fun v4 B6 H6 n6 d4 => ?_
      walk_at "sx"
      refine sx_tupD (K := K) (B := B6) (ds := [.str "go"]) (by walk_at "dv") n6.h (by simp) fun v5 B7 H7 n7 d5 => ?_
      walk_at "sx"
      refine sx_tupD (K := K) (B := B7) (ds := [.tuple [.int 1], .tuple [.int 2], .tuple [.int 0]]) (by walk_at "dv") n7.h (by simp) fun v6 B8 H8 n8 d6 => ?_
      walk_at "sx"
      refine sx_mkF T.c_Machine n8.h (by rfl) fun ra B9 H9 hra n9 ia => ?_
      have n39 := ((((n4.tr n5).tr n6).tr n7).tr n8).tr n9
      have mR : MachD K mg B9 (.ref ra) ringT 1 := ⟨ra, _, _, _, _, _, _, rfl, ia, Dp.up (n7.b.trans (n8.b.trans n9.b)) d4, rfl, Dp.up n9.b d6⟩
      have lm : LM K mg d l L (.ref ra) ringT 1 102 B9 H9 := ⟨⟨xs, m3.up n39, fun x hx => (p3 x hx).up n39.b, by omega⟩, n39.h, D3.up n39, mR, off⟩
      clear mR n39 ia n9 d6 n8 d5 n7 d4 n6 d2 n5 d1 n4 m3 p3 l3 D3 off e3
      walk_at "sx"
      walk_at "st"
      walk_at "sx"
      refine sx_tupD (K := K) (B := B9) (ds := [.int 0, .int (0 - 2), .int 0, .int 0, .int (0 - 2), .int (0 - 3), .int (0 - 3), .int (0 - 2), .int (0 - 1), .int 0]) (by walk_at "dv") lm.e (by simp) fun vr B10 H10 n10 dr => ?_
      have lm := lm.up0 n10
      have dr : Dp K B10 vr (.tuple (iD [0, 0 - 2, 0, 0, 0 - 2, 0 - 3, 0 - 3, 0 - 2, 0 - 1, 0])) := dr
      obtain ⟨pr, _, rfl, _, _⟩ := Dp.tup_v dr
      clear n10
      walk_at "sx"
      walk_at "st"
      walk_at "sx"
      obtain ⟨s1, r1, r1p⟩ := ring1
      refine lm.run ring_ok (by decide) (tup_at dr) (by decide) fun B11 H11 v11 n11 lm d11 => ?_
      rw [r1] at d11
      have d11 : Dp K B11 v11 (.tuple (iD [0, 1, 1, 2, 0, 0, 0, 1, 1, 0, 1])) := d11
      have dr := Dp.up n11.b dr
      walk_at "sx"
      refine sx_tupD (K := K) (B := B11) (ds := iD [0, 1, 1, 2, 0, 0, 0, 1, 1, 0, 1]) (by show DVs K _ _ _ [.int 0, .int 1, .int 1, .int 2, .int 0, .int 0, .int 0, .int 1, .int 1, .int 0, .int 1]; walk_at "dv") lm.e (by decide) fun v12 B12 H12 n12 d12 => ?_
      have lm := lm.up0 n12
      walk_at "sx"
      refine sx_newT (K := K) lm.e (.cons (Dp.up n12.b d11) (.cons d12 .nil)) (by simp) fun p13 B13 H13 hp13 n13 d13 => ?_
      have lm := lm.up0 n13
      have dr := Dp.up (n12.b.trans n13.b) dr
      clear d11 d12 n11 n12 n13
      walk_at "sx"
      refine lm.run ring_ok (by decide) (tup_at dr) (by decide) fun B14 H14 v14 n14 lm d14 => ?_
      rw [r1] at d14
      have d14 : Dp K B14 v14 (.tuple (iD s1.plain)) := d14
      rw [r1p] at d14
      walk_at "sx"
      refine sx_tupD (K := K) (B := B14) (ds := iD [0, 0, 0, 0 - 1, 0 - 1, 0 - 1, 0]) (by show DVs K _ _ _ [.int 0, .int 0, .int 0, .int (0 - 1), .int (0 - 1), .int (0 - 1), .int 0]; walk_at "dv") lm.e (by decide) fun v15 B15 H15 n15 d15 => ?_
      have lm := lm.up0 n15
      walk_at "sx"
      refine sx_newT (K := K) lm.e (.cons (Dp.up n15.b d14) (.cons d15 .nil)) (by simp) fun p16 B16 H16 hp16 n16 d16 => ?_
      have lm := lm.up0 n16
      have d13 := Dp.up (n14.b.trans (n15.b.trans n16.b)) d13
      clear d14 d15 n14 n15 n16 dr
      walk_at "sx"
      refine lm.cat (by omega) (by simp) (fun v hv => ?_) fun L17 H17 n17 lm => ?_
      · simp only [List.mem_cons, List.not_mem_nil, or_false] at hv
        rcases hv with rfl | rfl
        · exact pair_of d13 (okN_ints (by decide) 7)
        · exact pair_of d16 (okN_ints (by decide) 7)
      clear d13 d16 n17
      walk_at "sx"
      walk_at "st"
      walk_at "sx"
      refine sx_tupD (K := K) (B := B16) (ds := [.int 0, .int (0 - 2), .int (0 - 1), .int (0 - 3)]) (by walk_at "dv") lm.e (by simp) fun v18 B18 H18 n18 d18 => ?_
      have lm := lm.up0 n18
      have d18 : Dp K B18 v18 (.tuple (iD [0, 0 - 2, 0 - 1, 0 - 3])) := d18
      obtain ⟨p18, _, rfl, _, _⟩ := Dp.tup_v d18
      walk_at "sx"
      refine lm.run ring_ok (by decide) (tup_at d18) (by decide) fun B19 H19 v19 n19 lm d19 => ?_
      rw [ring2] at d19
      have d19 : Dp K B19 v19 .none := d19
      walk_at "sx"
      refine sx_newT (K := K) lm.e (.cons d19 (.cons .non .nil)) (by simp) fun p20 B20 H20 hp20 n20 d20 => ?_
      have lm := lm.up0 n20
      clear d19 n19 d18 n18
      walk_at "sx"
      refine sx_tupD (K := K) (B := B20) (ds := [.int (0 - 2), .int (0 - 2), .int 0, .int (0 - 3), .int (0 - 3)]) (by walk_at "dv") lm.e (by simp) fun v21 B21 H21 n21 d21 => ?_
      have lm := lm.up0 n21
      have d21 : Dp K B21 v21 (.tuple (iD [0 - 2, 0 - 2, 0, 0 - 3, 0 - 3])) := d21
      obtain ⟨p21, _, rfl, _, _⟩ := Dp.tup_v d21
      walk_at "sx"
      obtain ⟨s3, r3⟩ := ring3
      refine lm.run ring_ok (by decide) (tup_at d21) (by decide) fun B22 H22 v22 n22 lm d22 => ?_
      rw [r3] at d22
      have d22 : Dp K B22 v22 (.tuple (iD [0, 0, 0, 1, 0, 0])) := d22
      walk_at "sx"
      refine sx_tupD (K := K) (B := B22) (ds := iD [0, 0, 0, 1, 0, 0]) (by show DVs K _ _ _ [.int 0, .int 0, .int 0, .int 1, .int 0, .int 0]; walk_at "dv") lm.e (by decide) fun v23 B23 H23 n23 d23 => ?_
      have lm := lm.up0 n23
      walk_at "sx"
      refine sx_newT (K := K) lm.e (.cons (Dp.up n23.b d22) (.cons d23 .nil)) (by simp) fun p24 B24 H24 hp24 n24 d24 => ?_
      have lm := lm.up0 n24
      have d20 := Dp.up (n21.b.trans (n22.b.trans (n23.b.trans n24.b))) d20
      clear d21 d22 d23 n21 n22 n23 n24
      walk_at "sx"
      refine sx_newT (K := K) (ds := []) lm.e .nil (by simp) fun p25 B25 H25 hp25 n25 d25 => ?_
      have lm := lm.up0 n25
      walk_at "sx"
      refine lm.run (es := []) ring_ok (by decide) (tup_at d25) (by decide) fun B26 H26 v26 n26 lm d26 => ?_
      rw [ring4] at d26
      have d26 : Dp K B26 v26 (.tuple []) := d26
      walk_at "sx"
      refine sx_newT (K := K) (ds := []) lm.e .nil (by simp) fun p27 B27 H27 hp27 n27 d27 => ?_
      have lm := lm.up0 n27
      walk_at "sx"
      refine sx_newT (K := K) lm.e (.cons (Dp.up n27.b d26) (.cons d27 .nil)) (by simp) fun p28 B28 H28 hp28 n28 d28 => ?_
      have lm := lm.up0 n28
      have e25 := n25.b.trans (n26.b.trans (n27.b.trans n28.b))
      have d20 := Dp.up e25 d20
      have d24 := Dp.up e25 d24
      walk_at "sx"
      refine lm.cat (by simp) (by simp) (fun v hv => ?_) fun L29 H29 n29 lm => ?_
      · simp only [List.mem_cons, List.not_mem_nil, or_false] at hv
        rcases hv with rfl | rfl | rfl
        · exact pair_of d20 rfl
        · exact pair_of d24 (okN_ints (by decide) 7)
        · exact pair_of d28 rfl
      obtain ⟨zs, z1, z2, z3⟩ := lm.xs
      walk_at "sx"
      exact ⟨B28, L29, zs, rfl, lm.e, z1.sq, by simp at z3; omega, z2, fun H' => k H'⟩
end
end C
namespace G
open PySem PySem.Spec PyProof.Rows L2
section
variable {K : PySem.W.Frag} {h : Heap} {mg : Str → Option Value}
/-- a def of the top as the head has it -/
theorem df_mk {x : Str} {st : Stmt} {f : Addr} {oc : Value} {od an : Option Addr} {osl : Array (Option Value)} {kV doc pm cdv ct : Value} (X : K.In h) (G : h.Ns mainGlobals mg) (a : PySem.W.nsIn K mainGlobals x = some (some (.ref f)))
    (l : K.lookup f = some ⟨oc, od, .func (PySem.W.fnOf x x (defArgs st) (defBody st) (defScope st) .none kV doc pm an cdv ct), osl⟩) (c : PySem.W.codeIn K cdv x = true) (k : PySem.W.keepIn K (.ref f) = true) : Df K mg x st :=
  ⟨f, _, fun_mk l c k, PySem.W.mg_of X G a⟩
theorem gs_mk {x z : Str} {t : Tok} (X : K.In h) (G : h.Ns mainGlobals mg) (a : PySem.W.nsIn K mainGlobals x = some (some (.str z t))) : ∃ t, mg x = some (.str z t) := ⟨t, PySem.W.mg_of X G a⟩
theorem gi_mk {x : Str} {z : Int} {t : Tok} (X : K.In h) (G : h.Ns mainGlobals mg) (a : PySem.W.nsIn K mainGlobals x = some (some (.int z t))) : ∃ t, mg x = some (.int z t) := ⟨t, PySem.W.mg_of X G a⟩
theorem gt_mk {x : Str} {a : Addr} {xs : List V} {dd : Option Addr} {its : List Value} {n : Nat} {sl : Array (Option Value)} (X : K.In h) (G : h.Ns mainGlobals mg) (e : PySem.W.nsIn K mainGlobals x = some (some (.ref a)))
    (l : K.lookup a = some ⟨.type "tuple", dd, .seq its.toArray n, sl⟩) (hv : Vals xs its) (hz : its.length ≤ 1000) : ∃ a, mg x = some (.ref a) ∧ ∀ H', SqT K H' a xs :=
  ⟨a, PySem.W.mg_of X G e, fun H' => .inr ⟨_, its.toArray, n, l, rfl, rfl, Nat.le_trans (by simpa using hz) (by decide : 1000 ≤ sizeLine), by simpa using hv⟩⟩
/-- a dict of the top, texts to defs -/
theorem kf_mk {w : World} {k x : Str} {a f : Addr} {es : List DictEntry} {n : Nat} (X : K.In h) (G : h.Ns mainGlobals mg) (l : K.lookup a = some ⟨.type "dict", none, .dict es.toArray n, #[]⟩) (hk : PySem.W.KeysLit w.params es)
    (e : PySem.W.nsIn K a k = some (some (.ref f))) (g : PySem.W.nsIn K mainGlobals x = some (some (.ref f))) : KFn K w mg a k x := ⟨f, PySem.W.mg_of X G g, es.toArray, n, .ref f, l, hk, e, rfl⟩
theorem kf_nil {w : World} {a : Addr} : ∀ q ∈ ([] : List (Str × Str)), KFn K w mg a q.1 q.2 := fun _ h => nomatch h
theorem kf_cons {w : World} {a : Addr} {k x : Str} {r : List (Str × Str)} (h : KFn K w mg a k x) (t : ∀ q ∈ r, KFn K w mg a q.1 q.2) : ∀ q ∈ (k, x) :: r, KFn K w mg a q.1 q.2 := fun q hq => by
  rcases List.mem_cons.mp hq with z | z
  · rw [z]; exact h
  · exact t q z
theorem gd_mk {w : World} {x : Str} {a : Addr} {ps : List (Str × Str)} (X : K.In h) (G : h.Ns mainGlobals mg) (e : PySem.W.nsIn K mainGlobals x = some (some (.ref a))) (t : ∀ q ∈ ps, KFn K w mg a q.1 q.2) : ∃ a, mg x = some (.ref a) ∧ ∀ q ∈ ps, KFn K w mg a q.1 q.2 := ⟨a, PySem.W.mg_of X G e, t⟩
/-- the law's own def -/
theorem law_mk {P : Program} {w : World} {st : Stmt} {k : Nat} {sp : Sp} {fa : Addr} (D : Df K mg "law" st) (hfa : mg "law" = some (.ref fa))
    (hb : ∀ (kV doc pm : Value) (an : Option Addr) (cdv ct : Value) (u : Value), bindArgs (PySem.W.fnOf "law" "law" (defArgs st) (defBody st) (defScope st) .none kV doc pm an cdv ct) ⟨[u], []⟩ = pure [(("script" : Str), u)])
    (H : ∀ base : Heap, Has P w K mg base "law" st k ["script"] sp) : ∃ fd : FuncData, (∀ (s : Shared) (v : Value), BindsTo s fd ⟨[v], []⟩ [("script", v)]) ∧ ∀ base : Heap, K.In base → base.Ns mainGlobals mg → FnOk P w K mg base CX0 k fa fd ["script"] sp := by
  obtain ⟨f, fd, F, m⟩ := D
  rw [hfa] at m
  have e : fa = f := by injection m with m; injection m
  subst e
  refine ⟨fd, fun s v => ?_, fun base _ _ => ?_⟩
  · obtain ⟨oc, od, kV, doc, pm, an, cdv, ct, osl, rfl, lk, hcd⟩ := F.ex
    exact .of_eq (hb _ _ _ _ _ _ _)
  · obtain ⟨f2, fd2, F2, m2, n2, _⟩ := (H base).ex
    rw [hfa] at m2
    have e2 : fa = f2 := by injection m2 with m2; injection m2
    subst e2
    obtain ⟨_, _, _, _, _, _, _, _, _, e3, lk, _⟩ := F.ex
    obtain ⟨_, _, _, _, _, _, _, _, _, e4, lk2, _⟩ := n2.ex
    rw [lk] at lk2
    have : fd = fd2 := by injection lk2 with z; injection z with _ _ z _; injection z
    rw [this]
    exact F2
end
end G
namespace C
open PySem L2 G
theorem law_end {P : Program} {w : World} {K : PySem.W.Frag} {mg : Str → Option Value} {fa : Addr} (hfa : mg "law" = some (.ref fa)) (T : Txt w K mg) : ∃ fd : FuncData, (∀ (s : Shared) (v : Value), BindsTo s fd ⟨[v], []⟩ [("script", v)]) ∧ ∀ base : Heap, K.In base → base.Ns mainGlobals mg → FnOk P w K mg base CX0 11 fa fd ["script"] (spLaw K) := law_mk T.d_law hfa (fun _ _ _ _ _ _ _ => rfl) (fun base => ok_law T)
end C
open PySem PySem.W PyProof.Rows
set_option maxRecDepth 100000 in
set_option maxHeartbeats 0 in
theorem PySem.Challenge.cw_typedback_k34_runs_with_marks_holds : PySem.Challenge.rw_typedback_k34_runs_with_marks.Holds := by
  w_on; o_law; k_head; (case hw => w_witness2)
  k_fill
  refine L2.walk_of (l := PySem.Challenge.rw_typedback_k34_runs_with_marks) (n := 63) (k := 11) (x := "script") (CX := fun _ => L2.CX0) (sp := fun w => C.spLaw _) rfl (by decide) rfl ⟨rfl, by decide, by decide⟩ (fun w h Y => PySem.W.kIn_of Y) ?F (fun _ _ a ns hl _ hS => ⟨a, ns, rfl, hS, hl, fun _ => rfl⟩) (fun _ _ _ _ _ h => h)
  case F =>
    intro w mg fa h KX GM hmg
    refine' C.law_end hmg ?T
    case T =>
      constructor
      · refine' G.df_mk KX GM ?a ?l ?c ?k; (case a => k_is); (case l => k_is); (case c => k_is); (case k => k_is)
      · refine' G.df_mk KX GM ?a ?l ?c ?k; (case a => k_is); (case l => k_is); (case c => k_is); (case k => k_is)
      · refine' G.df_mk KX GM ?a ?l ?c ?k; (case a => k_is); (case l => k_is); (case c => k_is); (case k => k_is)
      · refine' G.df_mk KX GM ?a ?l ?c ?k; (case a => k_is); (case l => k_is); (case c => k_is); (case k => k_is)
      · refine' G.df_mk KX GM ?a ?l ?c ?k; (case a => k_is); (case l => k_is); (case c => k_is); (case k => k_is)
      · refine' G.df_mk KX GM ?a ?l ?c ?k; (case a => k_is); (case l => k_is); (case c => k_is); (case k => k_is)
      · refine' G.df_mk KX GM ?a ?l ?c ?k; (case a => k_is); (case l => k_is); (case c => k_is); (case k => k_is)
      · refine' G.df_mk KX GM ?a ?l ?c ?k; (case a => k_is); (case l => k_is); (case c => k_is); (case k => k_is)
      · refine' G.df_mk KX GM ?a ?l ?c ?k; (case a => k_is); (case l => k_is); (case c => k_is); (case k => k_is)
      · refine' G.df_mk KX GM ?a ?l ?c ?k; (case a => k_is); (case l => k_is); (case c => k_is); (case k => k_is)
      · refine' G.df_mk KX GM ?a ?l ?c ?k; (case a => k_is); (case l => k_is); (case c => k_is); (case k => k_is)
      · refine' G.df_mk KX GM ?a ?l ?c ?k; (case a => k_is); (case l => k_is); (case c => k_is); (case k => k_is)
      · refine' G.df_mk KX GM ?a ?l ?c ?k; (case a => k_is); (case l => k_is); (case c => k_is); (case k => k_is)
      · refine' G.df_mk KX GM ?a ?l ?c ?k; (case a => k_is); (case l => k_is); (case c => k_is); (case k => k_is)
      · refine' G.df_mk KX GM ?a ?l ?c ?k; (case a => k_is); (case l => k_is); (case c => k_is); (case k => k_is)
      · refine' G.df_mk KX GM ?a ?l ?c ?k; (case a => k_is); (case l => k_is); (case c => k_is); (case k => k_is)
      · refine' G.df_mk KX GM ?a ?l ?c ?k; (case a => k_is); (case l => k_is); (case c => k_is); (case k => k_is)
      · refine' G.df_mk KX GM ?a ?l ?c ?k; (case a => k_is); (case l => k_is); (case c => k_is); (case k => k_is)
      · refine' G.df_mk KX GM ?a ?l ?c ?k; (case a => k_is); (case l => k_is); (case c => k_is); (case k => k_is)
      · exact PySem.W.mg_none_of KX GM (by k_is)
      · exact PySem.W.mg_none_of KX GM (by k_is)
      · exact PySem.W.mg_none_of KX GM (by k_is)
      · exact PySem.W.mg_none_of KX GM (by k_is)
      · exact PySem.W.mg_none_of KX GM (by k_is)
      · exact PySem.W.mg_none_of KX GM (by k_is)
      · exact PySem.W.mg_none_of KX GM (by k_is)
      · exact PySem.W.mg_none_of KX GM (by k_is)
      · exact PySem.W.mg_none_of KX GM (by k_is)
      · refine' G.gi_mk KX GM ?a; (case a => k_is)
      · refine' G.gi_mk KX GM ?a; (case a => k_is)
      · refine' G.gi_mk KX GM ?a; (case a => k_is)
      · refine' G.gi_mk KX GM ?a; (case a => k_is)
      · refine' G.cl_mk KX GM ?a ?pg ?hd ?po ?sa ?kp ?mk ?no; (case a => k_is); (case pg => k_is); (case hd => k_is); (case po => k_is); (case sa => k_is); (case kp => k_is); (case mk => k_is)
        case no => (refine List.forall_mem_cons.mpr ⟨by k_is, ?_⟩; refine List.forall_mem_cons.mpr ⟨by k_is, ?_⟩; refine List.forall_mem_cons.mpr ⟨by k_is, ?_⟩; refine List.forall_mem_cons.mpr ⟨by k_is, ?_⟩; refine List.forall_mem_cons.mpr ⟨by k_is, ?_⟩; refine List.forall_mem_cons.mpr ⟨by k_is, ?_⟩;  intro y hy; cases hy)
      · refine' G.md_mk KX GM ?a ?b ?i ?l ?c ?k; (case a => k_is); (case b => k_is); (case i => k_is); (case l => k_is); (case c => k_is); (case k => k_is)
      · refine' G.md_mk KX GM ?a ?b ?i ?l ?c ?k; (case a => k_is); (case b => k_is); (case i => k_is); (case l => k_is); (case c => k_is); (case k => k_is)
      · refine' G.cl_mk KX GM ?a ?pg ?hd ?po ?sa ?kp ?mk ?no; (case a => k_is); (case pg => k_is); (case hd => k_is); (case po => k_is); (case sa => k_is); (case kp => k_is); (case mk => k_is)
        case no => (refine List.forall_mem_cons.mpr ⟨by k_is, ?_⟩; refine List.forall_mem_cons.mpr ⟨by k_is, ?_⟩; refine List.forall_mem_cons.mpr ⟨by k_is, ?_⟩;  intro y hy; cases hy)
      · refine' G.md_mk KX GM ?a ?b ?i ?l ?c ?k; (case a => k_is); (case b => k_is); (case i => k_is); (case l => k_is); (case c => k_is); (case k => k_is)
      · refine' G.md_mk KX GM ?a ?b ?i ?l ?c ?k; (case a => k_is); (case b => k_is); (case i => k_is); (case l => k_is); (case c => k_is); (case k => k_is)
      · refine' G.md_mk KX GM ?a ?b ?i ?l ?c ?k; (case a => k_is); (case b => k_is); (case i => k_is); (case l => k_is); (case c => k_is); (case k => k_is)
      · refine' G.md_mk KX GM ?a ?b ?i ?l ?c ?k; (case a => k_is); (case b => k_is); (case i => k_is); (case l => k_is); (case c => k_is); (case k => k_is)
      · refine' G.md_mk KX GM ?a ?b ?i ?l ?c ?k; (case a => k_is); (case b => k_is); (case i => k_is); (case l => k_is); (case c => k_is); (case k => k_is)
      · refine' G.md_mk KX GM ?a ?b ?i ?l ?c ?k; (case a => k_is); (case b => k_is); (case i => k_is); (case l => k_is); (case c => k_is); (case k => k_is)
      · refine' G.md_mk KX GM ?a ?b ?i ?l ?c ?k; (case a => k_is); (case b => k_is); (case i => k_is); (case l => k_is); (case c => k_is); (case k => k_is)
      · refine' G.md_mk KX GM ?a ?b ?i ?l ?c ?k; (case a => k_is); (case b => k_is); (case i => k_is); (case l => k_is); (case c => k_is); (case k => k_is)
      · refine' G.cl_mk KX GM ?a ?pg ?hd ?po ?sa ?kp ?mk ?no; (case a => k_is); (case pg => k_is); (case hd => k_is); (case po => k_is); (case sa => k_is); (case kp => k_is); (case mk => k_is)
        case no => (refine List.forall_mem_cons.mpr ⟨by k_is, ?_⟩; refine List.forall_mem_cons.mpr ⟨by k_is, ?_⟩; refine List.forall_mem_cons.mpr ⟨by k_is, ?_⟩;  intro y hy; cases hy)
      · refine' G.md_mk KX GM ?a ?b ?i ?l ?c ?k; (case a => k_is); (case b => k_is); (case i => k_is); (case l => k_is); (case c => k_is); (case k => k_is)
      · refine' G.md_mk KX GM ?a ?b ?i ?l ?c ?k; (case a => k_is); (case b => k_is); (case i => k_is); (case l => k_is); (case c => k_is); (case k => k_is)
      · refine' G.md_mk KX GM ?a ?b ?i ?l ?c ?k; (case a => k_is); (case b => k_is); (case i => k_is); (case l => k_is); (case c => k_is); (case k => k_is)
      · refine' G.md_mk KX GM ?a ?b ?i ?l ?c ?k; (case a => k_is); (case b => k_is); (case i => k_is); (case l => k_is); (case c => k_is); (case k => k_is)
      · refine' G.md_mk KX GM ?a ?b ?i ?l ?c ?k; (case a => k_is); (case b => k_is); (case i => k_is); (case l => k_is); (case c => k_is); (case k => k_is)
