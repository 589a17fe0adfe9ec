import PyProof.Rows.All
import Wide.All
import OpenK.AllK
import Wide.FinOn
import HandS.ForMost
import HandS.ForExc
import HandS.TupSets
import HandS.Strs
import HandS.Wide
import HandS.Codes
import HandS.Star
import HandS.IsInst
import HandS.Property
import HandS.Defaults
import HandS.OwnEq
import HandS.SetFor
import HandS.TupLe
import HandS.Style
import HandS.HeadHook2
import HandS.Head2
import HandS.HeadEnd
import HandS.ClsMeth
import KE.GoesEnum
import KE.KOpsOwn
import KE.DataMinMax
import HandS.SortKw
import HandS.Walk
import HandS.HeadHook3
import HandS.TupAny
import KE.KRevSl
import HandS.ExcInit
import HandS.Nested
import KE.KExcSuper
import HandS.TryOnly
import HandS.TryMany
import HandS.ExcOwn
import HandS.ExcField
import HandS.ExcIs
import KE.DataCmp
import KE.SortData
import KE.KCallOwn
import HandS.Lambda
import HandS.Deep
import HandS.MakeKw
import HandS.MakeKwOnly
import HandS.HotCalls
import HandS.Conv
import HandS.HeadWalk
import KE.KNestM
import PySem.Challenge.RW_turnrings_k01_numbers_made_and_refused
set_option Elab.async false
set_option linter.all false
set_option maxRecDepth 100000
set_option maxHeartbeats 4000000
/-! # My layer over HandS: defs by name (Cal), own operators. -/
namespace Tr
open PySem L2
open PyProof.Rows (envOfC)

theorem units_of {A : Around} {k : Nat} (hr : Room k A) : A.units + 64 < cLine := hr.units

/-- a def that may be called by its name -/
structure Cal (P : Program) (w : World) (K : PySem.W.Frag) (mg : Str → Option Value) (base : Heap) (k : Nat) (x : Str) (sp : Sp) (dvs : List V) : Prop where
  ex : ∃ (f : Addr) (fd : FuncData) (ps : List Str) (ds : List Value), FnOk P w K mg base (L2.CX P w) k f fd ps sp ∧ mg x = some (.ref f) ∧ PySem.W.keepIn K (.ref f) = true ∧ Binds K fd ps ds ∧ Vals dvs ds
/-- a method of the class at C -/
structure Met (P : Program) (w : World) (K : PySem.W.Frag) (mg : Str → Option Value) (base : Heap) (k : Nat) (C : Addr) (m : Str) (sp : Sp) (dvs : List V) : Prop where
  ex : ∃ (f : Addr) (fd : FuncData) (ps : List Str) (ds : List Value), Cls K C ∧ Meth K C m f ∧ FnOk P w K mg base (L2.CX P w) k f fd ps sp ∧ Binds K fd ps ds ∧ Vals dvs ds
/-- a class that may be made by its name; sp: its __init__ -/
structure Mak (P : Program) (w : World) (K : PySem.W.Frag) (mg : Str → Option Value) (base : Heap) (k : Nat) (x : Str) (C : Addr) (sp : Sp) (dvs : List V) : Prop where
  ex : ∃ (f : Addr) (fd : FuncData) (ps : List Str) (ds : List Value), Mk K C f ∧ FnOk P w K mg base (L2.CX P w) k f fd ps sp ∧ mg x = some (.ref C) ∧ Binds K fd ps ds ∧ Vals dvs ds
/-- a def of the module, as the top has left it -/
def Dfn (K : PySem.W.Frag) (mg : Str → Option Value) (x : Str) (st : Stmt) : Prop := ∃ f fd, Fun K x x st f fd ∧ mg x = some (.ref f)

section
variable {P : Program} {w : World} {K : PySem.W.Frag} {mg : Str → Option Value} {base : Heap}
theorem Cal.mono {j k : Nat} {x : Str} {sp : Sp} {dvs : List V} (c : Cal P w K mg base j x sp dvs) (h : j ≤ k) : Cal P w K mg base k x sp dvs :=
  let ⟨f, fd, ps, ds, F, r⟩ := c.ex
  ⟨f, fd, ps, ds, F.mono h, r⟩
theorem Cal.imp {k : Nat} {x : Str} {sp sp' : Sp} {dvs : List V} (c : Cal P w K mg base k x sp dvs) (h : ∀ vs H Q E, sp' vs H Q E → sp vs H Q E) : Cal P w K mg base k x sp' dvs :=
  let ⟨f, fd, ps, ds, F, r⟩ := c.ex
  ⟨f, fd, ps, ds, F.imp h, r⟩
/-- a def that raises nothing, by its body -/
theorem okN {x qual : Str} {st : Stmt} {f : Addr} {fd : FuncData} {N ps : List Str} {k : Nat} {sp : Sp} (F : Fun K x qual st f fd) (S : FnScope N ps (defScope st)) (len : ∀ vs H Q E, sp vs H Q E → vs.length = ps.length)
    (hbody : ∀ (cdv : Value) (A : Around) (outer : List Env) (s : Shared) (H : Hp) (vs : List V) (Q : VK) (E : XK), Room k (A.deeper (envOfC qual (defScope st) s.heap.objs.size f cdv)) → sp vs H Q E →
      ∃ t, PSs (cxOf (L2.CX P w) P w K mg base N qual (defScope st) f cdv A outer s H E).nox (defBody st) t ∧ t { nx := fun _ H' => Q .non H', rt := Q } (start N vs) H) : FnOk P w K mg base (L2.CX P w) (k + 1) f fd ps sp :=
  F.okX S len fun cdv A outer s H vs Q E hr h =>
    let ⟨t, h1, h2⟩ := hbody cdv A outer s H vs Q E hr h
    ⟨t, h1.nox, h2⟩
theorem calN {x : Str} {st : Stmt} {N ps : List Str} {k : Nat} {sp : Sp} (D : Dfn K mg x st) (S : FnScope N ps (defScope st)) (len : ∀ vs H Q E, sp vs H Q E → vs.length = ps.length)
    (hb : ∀ (kV doc pm : Value) (an : Option Addr) (cdv ct : Value) (us : List Value), us.length = ps.length → bindArgs (PySem.W.fnOf x x (defArgs st) (defBody st) (defScope st) .none kV doc pm an cdv ct) ⟨us, []⟩ = pure (ps.zip us))
    (hbody : ∀ (f : Addr) (cdv : Value) (A : Around) (outer : List Env) (s : Shared) (H : Hp) (vs : List V) (Q : VK) (E : XK), Room k (A.deeper (envOfC x (defScope st) s.heap.objs.size f cdv)) → sp vs H Q E →
      ∃ t, PSs (cxOf (L2.CX P w) P w K mg base N x (defScope st) f cdv A outer s H E).nox (defBody st) t ∧ t { nx := fun _ H' => Q .non H', rt := Q } (start N vs) H) : Cal P w K mg base (k + 1) x sp [] :=
  let ⟨f, fd, F, hm⟩ := D
  ⟨f, fd, ps, [], okN F S len (hbody f), hm, F.kp, F.binds hb, .nil⟩
/-- a def that may raise -/
theorem calX {x : Str} {st : Stmt} {N ps : List Str} {k : Nat} {sp : Sp} (D : Dfn K mg x st) (S : FnScope N ps (defScope st)) (len : ∀ vs H Q E, sp vs H Q E → vs.length = ps.length)
    (hb : ∀ (kV doc pm : Value) (an : Option Addr) (cdv ct : Value) (us : List Value), us.length = ps.length → bindArgs (PySem.W.fnOf x x (defArgs st) (defBody st) (defScope st) .none kV doc pm an cdv ct) ⟨us, []⟩ = pure (ps.zip us))
    (hbody : ∀ (f : Addr) (cdv : Value) (A : Around) (outer : List Env) (s : Shared) (H : Hp) (vs : List V) (Q : VK) (E : XK), Room k (A.deeper (envOfC x (defScope st) s.heap.objs.size f cdv)) → sp vs H Q E →
      ∃ t, PSs (cxOf (L2.CX P w) P w K mg base N x (defScope st) f cdv A outer s H E) (defBody st) t ∧ t { nx := fun _ H' => Q .non H', rt := Q } (start N vs) H) : Cal P w K mg base (k + 1) x sp [] :=
  let ⟨f, fd, F, hm⟩ := D
  ⟨f, fd, ps, [], F.okX S len (hbody f), hm, F.kp, F.binds hb, .nil⟩
theorem dfn_of {h : Heap} {x : Str} {st : Stmt} {f : Addr} {oc : Value} {od an : Option Addr} {osl : Array (Option Value)} {kV doc pm cdv ct : Value} (X : K.In h) (G : h.Ns mainGlobals mg)
    (a : PySem.W.nsIn K mainGlobals x = some (some (.ref f))) (l : K.lookup f = some ⟨oc, od, .func (PySem.W.fnOf x x (defArgs st) (defBody st) (defScope st) .none kV doc pm an cdv ct), osl⟩)
    (c : PySem.W.codeIn K cdv x = true) (k : PySem.W.keepIn K (.ref f) = true) : Dfn K mg x st := ⟨f, _, fun_mk l c k, PySem.W.mg_of X G a⟩
end

section
variable {X : Cx} {k j : Nat} {C : Addr} {x m : Str} {sp : Sp} {dvs : List V} {p pos apos : Pos} {e o : Expr} {es : List Expr} {ta : TE} {t : TA} {E : XK}
theorem pe_cx (c : Cal X.prog X.w X.K X.mg X.base k x sp dvs) (hr : Room j X.A) (hk : k ≤ j) (hg : Gl X x) (hx : Passes (L2.CX X.prog X.w) X E) (ha : PA X (e :: es) t)
    (hdb : (x == ("__debug__" : Str)) = false := by decide) (he : starEach (e :: es) X.env = (false, eval e X.env) :: starEach es X.env := by rfl) (hpl : (backTo pos (starEach es X.env)).any (·.1) = false := by rfl) :
    PE X (.Call (.Name x p) (e :: es) [] pos) (tCall sp dvs E t) := by
  obtain ⟨f, fd, ps, ds, F, hm, kp, b, d⟩ := c.ex
  exact pe_call F (hr.mono hk) hg hm kp b d hx ha hdb he hpl
theorem pe_cx0 (c : Cal X.prog X.w X.K X.mg X.base k x sp dvs) (hr : Room j X.A) (hk : k ≤ j) (hg : Gl X x) (hx : Passes (L2.CX X.prog X.w) X E)
    (hdb : (x == ("__debug__" : Str)) = false := by decide) : PE X (.Call (.Name x p) [] [] pos) (tCall sp dvs E tNil) := by
  obtain ⟨f, fd, ps, ds, F, hm, kp, b, d⟩ := c.ex
  exact pe_call0 F (hr.mono hk) hg hm kp b d hx hdb
end
end Tr

/-! # Lists of pairs, loops and comprehensions over them. -/
namespace Tr
open PySem L2

/-- two lists, item by item -/
inductive P2 {α β : Type} (R : α → β → Prop) : List α → List β → Prop where
  | nil : P2 R [] []
  | cons {a : α} {b : β} {l : List α} {m : List β} : R a b → P2 R l m → P2 R (a :: l) (b :: m)
namespace P2
variable {α β γ : Type} {R S : α → β → Prop}
theorem len {l : List α} {m : List β} (h : P2 R l m) : l.length = m.length := by
  induction h with
  | nil => rfl
  | cons _ _ ih => simp only [List.length_cons, ih]
theorem mono {l : List α} {m : List β} (h : P2 R l m) (f : ∀ a b, R a b → S a b) : P2 S l m := by
  induction h with
  | nil => exact .nil
  | cons r _ ih => exact .cons (f _ _ r) ih
theorem monoM {l : List α} {m : List β} (h : P2 R l m) (f : ∀ a b, a ∈ l → b ∈ m → R a b → S a b) : P2 S l m := by
  induction h with
  | nil => exact .nil
  | cons r _ ih => exact .cons (f _ _ List.mem_cons_self List.mem_cons_self r) (ih fun a b ha hb => f a b (List.mem_cons_of_mem _ ha) (List.mem_cons_of_mem _ hb))
theorem app {l l' : List α} {m m' : List β} (h : P2 R l m) (h' : P2 R l' m') : P2 R (l ++ l') (m ++ m') := by
  induction h with
  | nil => exact h'
  | cons r _ ih => exact .cons r ih
theorem snoc {l : List α} {m : List β} {a : α} {b : β} (h : P2 R l m) (r : R a b) : P2 R (l ++ [a]) (m ++ [b]) := h.app (.cons r .nil)
theorem get {l : List α} {m : List β} (h : P2 R l m) {i : Nat} {b : β} (e : m[i]? = some b) : ∃ a, l[i]? = some a ∧ R a b := by
  induction h generalizing i with
  | nil => simp at e
  | cons r _ ih =>
    cases i with
    | zero =>
      simp only [List.getElem?_cons_zero, Option.some.injEq] at e
      subst e
      exact ⟨_, rfl, r⟩
    | succ i => exact ih (by simpa using e)
theorem getl {l : List α} {m : List β} (h : P2 R l m) {i : Nat} {a : α} (e : l[i]? = some a) : ∃ b, m[i]? = some b ∧ R a b := by
  induction h generalizing i with
  | nil => simp at e
  | cons r _ ih =>
    cases i with
    | zero =>
      simp only [List.getElem?_cons_zero, Option.some.injEq] at e
      subst e
      exact ⟨_, rfl, r⟩
    | succ i => exact ih (by simpa using e)
theorem eq_map {g : β → α} {l : List α} {m : List β} (h : P2 (fun a b => a = g b) l m) : l = m.map g := by
  induction h with
  | nil => rfl
  | cons r _ ih => rw [r, ih]; rfl
theorem of_map {g : β → α} (m : List β) (h : ∀ b ∈ m, R (g b) b) : P2 R (m.map g) m := by
  induction m with
  | nil => exact .nil
  | cons b m ih => exact .cons (h b List.mem_cons_self) (ih fun c hc => h c (List.mem_cons_of_mem _ hc))
theorem mapr {f : γ → β} {l : List α} {m : List γ} (h : P2 (fun a c => R a (f c)) l m) : P2 R l (m.map f) := by
  induction h with
  | nil => exact .nil
  | cons r _ ih => exact .cons r ih
theorem memr {l : List α} {m : List β} (h : P2 R l m) {b : β} (hb : b ∈ m) : ∃ a ∈ l, R a b := by
  induction h with
  | nil => cases hb
  | cons r _ ih =>
    rcases List.mem_cons.mp hb with e | hb
    · rw [e]; exact ⟨_, List.mem_cons_self, r⟩
    · obtain ⟨a, ha, r⟩ := ih hb
      exact ⟨a, List.mem_cons_of_mem _ ha, r⟩
theorem meml {l : List α} {m : List β} (h : P2 R l m) {a : α} (ha : a ∈ l) : ∃ b ∈ m, R a b := by
  induction h with
  | nil => cases ha
  | cons r _ ih =>
    rcases List.mem_cons.mp ha with e | ha
    · rw [e]; exact ⟨_, List.mem_cons_self, r⟩
    · obtain ⟨b, hb, r⟩ := ih ha
      exact ⟨b, List.mem_cons_of_mem _ hb, r⟩
theorem ref {f : α → V} {l : List V} {m : List β} {T : V → β → Prop} (h : P2 T l m) (hf : ∀ v b, T v b → ∃ a, v = f a) : ∃ as : List α, l = as.map f := by
  induction h with
  | nil => exact ⟨[], rfl⟩
  | cons r _ ih =>
    obtain ⟨as, e⟩ := ih
    obtain ⟨a, e2⟩ := hf _ _ r
    exact ⟨a :: as, by rw [e2, e]; rfl⟩
theorem map_l {f : α → γ} {T : γ → β → Prop} {l : List α} {m : List β} : P2 T (l.map f) m ↔ P2 (fun a b => T (f a) b) l m := by
  constructor
  · intro h
    generalize hl : l.map f = k at h
    induction h generalizing l with
    | nil =>
      cases l with
      | nil => exact .nil
      | cons a l => cases hl
    | cons r _ ih =>
      cases l with
      | nil => cases hl
      | cons a l =>
        simp only [List.map_cons, List.cons.injEq] at hl
        obtain ⟨e1, e2⟩ := hl
        subst e1
        exact .cons r (ih e2)
  · intro h
    induction h with
    | nil => exact .nil
    | cons r _ ih => exact .cons r ih
theorem take {l : List α} {m : List β} (h : P2 R l m) (n : Nat) : P2 R (l.take n) (m.take n) := by
  induction h generalizing n with
  | nil => simp only [List.take_nil]; exact .nil
  | cons r _ ih =>
    cases n with
    | zero => exact .nil
    | succ n => exact .cons r (ih n)
theorem drop {l : List α} {m : List β} (h : P2 R l m) (n : Nat) : P2 R (l.drop n) (m.drop n) := by
  induction h generalizing n with
  | nil => simp only [List.drop_nil]; exact .nil
  | cons r h ih =>
    cases n with
    | zero => exact .cons r h
    | succ n => exact ih n
theorem rev {l : List α} {m : List β} (h : P2 R l m) : P2 R l.reverse m.reverse := by
  induction h with
  | nil => exact .nil
  | cons r _ ih => rw [List.reverse_cons, List.reverse_cons]; exact ih.snoc r
end P2

theorem take_snoc {α : Type} {l : List α} {i : Nat} {x : α} (h : l[i]? = some x) : l.take (i + 1) = l.take i ++ [x] := by
  obtain ⟨hi, e⟩ := List.getElem?_eq_some_iff.mp h
  rw [← e]
  exact List.take_succ_eq_append_getElem hi
theorem mem_of_at {α : Type} {l : List α} {i : Nat} {x : α} (h : l[i]? = some x) : x ∈ l := List.mem_of_getElem? h

theorem nodup_len {α : Type} [DecidableEq α] : ∀ (l m : List α), l.Nodup → (∀ x ∈ l, x ∈ m) → l.length ≤ m.length
  | [], _, _, _ => Nat.zero_le _
  | a :: l, m, nd, h => by
    have ha := h a List.mem_cons_self
    obtain ⟨n1, n2⟩ := List.nodup_cons.mp nd
    have := nodup_len l (m.erase a) n2 fun x hx => (List.mem_erase_of_ne (fun e => n1 (by rw [← e]; exact hx))).mpr (h x (List.mem_cons_of_mem _ hx))
    rw [List.length_erase_of_mem ha] at this
    have : 0 < m.length := List.length_pos_of_mem ha
    simp only [List.length_cons]
    omega
/-! ### heaps -/
theorem same_upd {H : Hp} {p : Addr} {o : HO} (h : H p = none) : Same H (upd H p o) := fun b u e => by rw [upd_ne (ne_of_none e h)]; exact e
theorem _root_.L2.Same.upd' {H H1 : Hp} {p : Addr} {o : HO} (s : Same H H1) (h : H1 p = none) : Same H (L2.upd H1 p o) := s.trans (same_upd h)
/-- an object made since is written -/
theorem _root_.L2.Same.wr {H H1 : Hp} {p : Addr} {o : HO} (s : Same H H1) (h : H p = none) : Same H (L2.upd H1 p o) := fun b u e => by
  rw [upd_ne (ne_of_none e h)]
  exact s b u e
theorem _root_.L2.Same.seqT {K : PySem.W.Frag} {H H' : Hp} {a : Addr} {xs : List V} (e : Same H H') (h : SqT K H a xs) : SqT K H' a xs :=
  h.elim (fun h => .inl (h.elim (fun h => .inl (e _ _ h)) fun ⟨o, h⟩ => .inr ⟨o, e _ _ h⟩)) fun h => .inr h

/-- all but what stands at D is as it was -/
def Kp (D : Addr) (H H' : Hp) : Prop := ∀ b o, H b = some o → b ≠ D → H' b = some o
theorem Kp.refl (D : Addr) (H : Hp) : Kp D H H := fun _ _ e _ => e
theorem Kp.trans {D : Addr} {H H1 H2 : Hp} (a : Kp D H H1) (b : Kp D H1 H2) : Kp D H H2 := fun c o e n => b c o (a c o e n) n
theorem _root_.L2.Same.kp {D : Addr} {H H' : Hp} (s : Same H H') : Kp D H H' := fun b o e _ => s b o e
theorem kp_upd (D : Addr) (H : Hp) (o : HO) : Kp D H (L2.upd H D o) := fun b u e n => by rw [upd_ne n]; exact e

/-- a pair (r, m) stands at t -/
def PrT (H : Hp) (t : Addr) (c : Int × Int) : Prop := H t = some (.tup [.int c.1, .int c.2])
/-- a list of pairs stands at p -/
def PL (H : Hp) (p : Addr) (cs : List (Int × Int)) : Prop := ∃ ts : List Addr, H p = some (.lst (ts.map V.ref)) ∧ P2 (PrT H) ts cs
theorem PrT.ne {H : Hp} {t D : Addr} {c : Int × Int} {xs : List V} (h : PrT H t c) (hD : H D = some (.lst xs)) : t ≠ D := ne_of h hD (by intro z; cases z)
theorem P2.same {H H' : Hp} (s : Same H H') {ts : List Addr} {cs : List (Int × Int)} (h : P2 (PrT H) ts cs) : P2 (PrT H') ts cs := h.mono fun _ _ e => s _ _ e
theorem PL.same {H H' : Hp} {p : Addr} {cs : List (Int × Int)} (s : Same H H') (h : PL H p cs) : PL H' p cs :=
  let ⟨ts, a, b⟩ := h
  ⟨ts, s _ _ a, b.same s⟩

/-! ### loops -/
section
variable {K : PySem.W.Frag}
theorem wh {c : TT} {tb : TS} {D : Ends} {σ : St} {H : Hp} (Pv : St → Hp → Prop) (μ : St → Hp → Nat) (h0 : Pv σ H)
    (hs : ∀ σ H, Pv σ H → c σ H fun b H1 => if b = true then ∃ N : St → Hp → Prop, (∀ σ' H', N σ' H' → Pv σ' H' ∧ μ σ' H' < μ σ H) ∧ tb { D with nx := N, ct := N, bk := D.nx } σ H1 else D.nx σ H1)
    (mono : ∀ σ H Q Q', (∀ b H1, Q b H1 → Q' b H1) → c σ H Q → c σ H Q') : tWhile c tb D σ H := by
  refine ⟨fun m σ H => m = μ σ H ∧ Pv σ H, ⟨_, rfl, h0⟩, ?_⟩
  rintro m σ H ⟨rfl, p⟩
  refine mono σ H _ _ (fun b H1 q => ?_) (hs σ H p)
  cases b with
  | true =>
    obtain ⟨N, hN, q⟩ := q
    exact ⟨N, fun σ' H' n => ⟨_, (hN σ' H' n).2, rfl, (hN σ' H' n).1⟩, q⟩
  | false => exact q

/-- for a, b in pairs -/
theorem for_pairs {a : Addr} {i1 i2 : Nat} {tb : TS} {D : Ends} {σ : St} {H : Hp} {cs : List (Int × Int)} {ts : List Addr} (Pv : Nat → St → Hp → Prop) (h0 : Pv 0 σ H)
    (hl : ∀ i σ H, i ≤ cs.length → Pv i σ H → SqL K H a (ts.map V.ref) ∧ P2 (PrT H) ts cs)
    (hs : ∀ i c σ H, cs[i]? = some c → Pv i σ H → tb { D with nx := Pv (i + 1), ct := Pv (i + 1), bk := D.nx } ((σ.set i1 (some (.int c.1))).set i2 (some (.int c.2))) H)
    (hd : ∀ σ H, Pv cs.length σ H → D.nx σ H) :
    ∃ W : Nat → Nat → St → Hp → Prop, (∃ m, W 0 m σ H) ∧ ∀ i m σ H, W i m σ H →
      ((Itl K a).stop i H ∧ D.nx σ H) ∨ ((Itl K a).go i H ∧ ∃ N : St → Hp → Prop, (∀ σ' H', N σ' H' → ∃ m', m' < m ∧ W (i + 1) m' σ' H') ∧ ∀ x H', (Itl K a).yld i H x H' → gTup K 2 (gCons (gName i1) (gCons (gName i2) gNil)) x σ H' fun σ2 H2 => tb { D with nx := N, ct := N, bk := D.nx } σ2 H2) := by
  have hlen := (hl 0 σ H (Nat.zero_le _) h0).2.len
  have e : (ts.map V.ref).length = cs.length := by rw [List.length_map, hlen]
  refine for_list (K := K) (a := a) (xs := ts.map V.ref) Pv h0 (fun i σ H hi p => (hl i σ H (by omega) p).1) ?_ (fun σ H p => hd σ H (by rw [← e]; exact p))
  intro i x σ H hx p
  rw [List.getElem?_map] at hx
  cases ht : ts[i]? with
  | none => rw [ht] at hx; cases hx
  | some t =>
    rw [ht] at hx
    cases hx
    have hi : i < ts.length := (List.getElem?_eq_some_iff.mp ht).1
    obtain ⟨c, hc, r⟩ := (hl i σ H (by omega) p).2.getl ht
    exact ⟨t, _, rfl, SqT.of r, rfl, _, _, rfl, _, _, rfl, rfl, hs i c σ H hc p⟩

/-- the end of a comprehension -/
def LcG (J : It) (g : TG) (tt : TT) (te : TE) (vs : List Nat) (σ : St) (H1 : Hp) (D : Addr) (Qd : Hp → Prop) : Prop :=
    ∃ W : Nat → Nat → Hp → Prop, (∃ m, W 0 m (upd H1 D (.lst []))) ∧ ∀ i m H, W i m H →
      (J.stop i H ∧ Qd H) ∨ (J.go i H ∧ ∃ Nx : Hp → Prop, (∀ H', Nx H' → ∃ m', m' < m ∧ W (i + 1) m' H') ∧ ∀ x H', J.yld i H x H' → g x (wipe σ vs) H' fun σ2 H2 => wipe σ2 vs = wipe σ vs ∧ tt σ2 H2 fun b H3 =>
        if b = true then te σ2 H3 fun y H4 => ∃ acc, H4 D = some (.lst acc) ∧ acc.length < sizeLine ∧ Nx (upd H4 D (.lst (acc ++ [y]))) else Nx H3)

theorem small_app {n m : Nat} (h : n ≤ m) (hm : m ≤ 100000) : n < sizeLine := Nat.lt_of_le_of_lt (Nat.le_trans h hm) (by decide)

/-- [e for x in xs if p]: over a list of values; what stood stands, each item has the relation R to its source -/
theorem lc_vals {α : Type} {a : Addr} {xs : List V} {cs : List α} {i1 : Nat} {tt : TT} {te : TE} {vs : List Nat} {σ : St} {H1 : Hp} {D : Addr} {Qd : Hp → Prop} (p : α → Bool) (val : α → V) (R : V → α → Hp → Prop)
    (hR : ∀ y c H H' acc, H D = some (.lst acc) → Kp D H H' → R y c H → R y c H') (hD : H1 D = none) (hL : SqL K H1 a (cs.map val)) (hsz : cs.length ≤ 100000)
    (hw : ∀ x, wipe ((wipe σ vs).set i1 x) vs = wipe σ vs)
    (ht : ∀ c ∈ cs, ∀ H Q, Same H1 H → (∀ H', Same H H' → Q (p c) H') → tt ((wipe σ vs).set i1 (some (val c))) H Q)
    (he : ∀ c ∈ cs, p c = true → ∀ H Q, Same H1 H → (∀ y H', Same H H' → R y c H' → Q y H') → te ((wipe σ vs).set i1 (some (val c))) H Q)
    (hd : ∀ ys H, Same H1 H → H D = some (.lst ys) → P2 (fun y c => R y c H) ys (cs.filter p) → Qd H) : LcG (Itl K a) (gName i1) tt te vs σ H1 D Qd := by
  refine lc_list (K := K) (a := a) (xs := cs.map val) (fun i H => Same H1 H ∧ ∃ ys, H D = some (.lst ys) ∧ P2 (fun y c => R y c H) ys ((cs.take i).filter p)) ⟨same_upd hD, [], upd_same, .nil⟩ (fun i H _ ⟨s, _⟩ => s.seq hL) ?_ ?_
  · rintro i x H hx ⟨s, ys, hy, py⟩
    rw [List.getElem?_map] at hx
    cases hc : cs[i]? with
    | none => rw [hc] at hx; cases hx
    | some c =>
      rw [hc] at hx
      cases hx
      have hi : i < cs.length := (List.getElem?_eq_some_iff.mp hc).1
      have ll : ys.length ≤ 100000 := by
        have h1 := py.len
        have h2 := List.length_filter_le p (cs.take i)
        rw [List.length_take] at h2
        omega
      refine ⟨hw _, ht c (mem_of_at hc) H _ s fun H2 s2 => ?_⟩
      have py2 := py.mono fun v b rb => hR v b H H2 _ hy s2.kp rb
      have hy2 := s2 _ _ hy
      by_cases hp : p c = true
      · rw [if_pos hp]
        refine he c (mem_of_at hc) hp H2 _ (s.trans s2) fun y H' s' r => ⟨ys, s' _ _ hy2, small_app (Nat.le_refl _) ll, ((s.trans s2).trans s').wr hD, ys ++ [y], upd_same, ?_⟩
        rw [take_snoc hc, List.filter_append, List.filter_cons, if_pos hp, List.filter_nil]
        exact (py2.mono fun v b rb => hR v b H' _ _ (s' _ _ hy2) (kp_upd D H' _) (hR v b H2 H' _ hy2 s'.kp rb)).snoc (hR y c H' _ _ (s' _ _ hy2) (kp_upd D H' _) r)
      · rw [if_neg hp]
        refine ⟨s.trans s2, ys, hy2, ?_⟩
        rw [take_snoc hc, List.filter_append, List.filter_cons, if_neg hp, List.filter_nil, List.append_nil]
        exact py2
  · rintro H ⟨s, ys, hy, py⟩
    rw [List.length_map, List.take_length] at py
    exact hd ys H s hy py

/-- [e for a, b in pairs if p] -/
theorem lc_pairs {a : Addr} {ts : List Addr} {cs : List (Int × Int)} {i1 i2 : Nat} {tt : TT} {te : TE} {vs : List Nat} {σ : St} {H1 : Hp} {D : Addr} {Qd : Hp → Prop} (p : Int × Int → Bool) (R : V → Int × Int → Hp → Prop)
    (hR : ∀ y c H H' acc, H D = some (.lst acc) → Kp D H H' → R y c H → R y c H') (hD : H1 D = none) (hL : SqL K H1 a (ts.map V.ref)) (hP : P2 (PrT H1) ts cs) (hsz : cs.length ≤ 100000)
    (hw : ∀ x y, wipe (((wipe σ vs).set i1 x).set i2 y) vs = wipe σ vs)
    (ht : ∀ c ∈ cs, ∀ H Q, Same H1 H → (∀ H', Same H H' → Q (p c) H') → tt (((wipe σ vs).set i1 (some (.int c.1))).set i2 (some (.int c.2))) H Q)
    (he : ∀ c ∈ cs, p c = true → ∀ H Q, Same H1 H → (∀ y H', Same H H' → R y c H' → Q y H') → te (((wipe σ vs).set i1 (some (.int c.1))).set i2 (some (.int c.2))) H Q)
    (hd : ∀ ys H, Same H1 H → H D = some (.lst ys) → P2 (fun y c => R y c H) ys (cs.filter p) → Qd H) : LcG (Itl K a) (gTup K 2 (gCons (gName i1) (gCons (gName i2) gNil))) tt te vs σ H1 D Qd := by
  have hlen := hP.len
  refine lc_list (K := K) (a := a) (xs := ts.map V.ref) (fun i H => Same H1 H ∧ ∃ ys, H D = some (.lst ys) ∧ P2 (fun y c => R y c H) ys ((cs.take i).filter p)) ⟨same_upd hD, [], upd_same, .nil⟩ (fun i H _ ⟨s, _⟩ => s.seq hL) ?_ ?_
  · rintro i x H hx ⟨s, ys, hy, py⟩
    rw [List.getElem?_map] at hx
    cases ht' : ts[i]? with
    | none => rw [ht'] at hx; cases hx
    | some t =>
      rw [ht'] at hx
      cases hx
      obtain ⟨c, hc, r⟩ := hP.getl ht'
      have hi : i < cs.length := (List.getElem?_eq_some_iff.mp hc).1
      have ll : ys.length ≤ 100000 := by
        have h1 := py.len
        have h2 := List.length_filter_le p (cs.take i)
        rw [List.length_take] at h2
        omega
      refine ⟨t, _, rfl, SqT.of (s _ _ r), rfl, _, _, rfl, _, _, rfl, rfl, hw _ _, ht c (mem_of_at hc) H _ s fun H2 s2 => ?_⟩
      have py2 := py.mono fun v b rb => hR v b H H2 _ hy s2.kp rb
      have hy2 := s2 _ _ hy
      by_cases hp : p c = true
      · rw [if_pos hp]
        refine he c (mem_of_at hc) hp H2 _ (s.trans s2) fun y H' s' r => ⟨ys, s' _ _ hy2, small_app (Nat.le_refl _) ll, ((s.trans s2).trans s').wr hD, ys ++ [y], upd_same, ?_⟩
        rw [take_snoc hc, List.filter_append, List.filter_cons, if_pos hp, List.filter_nil]
        exact (py2.mono fun v b rb => hR v b H' _ _ (s' _ _ hy2) (kp_upd D H' _) (hR v b H2 H' _ hy2 s'.kp rb)).snoc (hR y c H' _ _ (s' _ _ hy2) (kp_upd D H' _) r)
      · rw [if_neg hp]
        refine ⟨s.trans s2, ys, hy2, ?_⟩
        rw [take_snoc hc, List.filter_append, List.filter_cons, if_neg hp, List.filter_nil, List.append_nil]
        exact py2
  · rintro H ⟨s, ys, hy, py⟩
    rw [List.length_map, hlen, List.take_length] at py
    exact hd ys H s hy py
/-- [e for i in range(lo, lo + n) if p] -/
theorem lc_rng {lo : Int} {n : Nat} {i1 : Nat} {tt : TT} {te : TE} {vs : List Nat} {σ : St} {H1 : Hp} {D : Addr} {Qd : Hp → Prop} (p : Nat → Bool) (R : V → Nat → Hp → Prop)
    (hR : ∀ y c H H' acc, H D = some (.lst acc) → Kp D H H' → R y c H → R y c H') (hD : H1 D = none) (hsz : n ≤ 100000)
    (hw : ∀ x, wipe ((wipe σ vs).set i1 x) vs = wipe σ vs)
    (ht : ∀ i, i < n → ∀ H Q, Same H1 H → (∀ H', Same H H' → Q (p i) H') → tt ((wipe σ vs).set i1 (some (.int (lo + i)))) H Q)
    (he : ∀ i, i < n → p i = true → ∀ H Q, Same H1 H → (∀ y H', Same H H' → R y i H' → Q y H') → te ((wipe σ vs).set i1 (some (.int (lo + i)))) H Q)
    (hd : ∀ ys H, Same H1 H → H D = some (.lst ys) → P2 (fun y c => R y c H) ys ((List.range n).filter p) → Qd H) : LcG (Itr lo n) (gName i1) tt te vs σ H1 D Qd := by
  refine lc_range (fun i H => Same H1 H ∧ ∃ ys, H D = some (.lst ys) ∧ P2 (fun y c => R y c H) ys ((List.range i).filter p)) ⟨same_upd hD, [], upd_same, .nil⟩ ?_ ?_
  · rintro i H hi ⟨s, ys, hy, py⟩
    have ll : ys.length ≤ 100000 := by
      have h1 := py.len
      have h2 := List.length_filter_le p (List.range i)
      rw [List.length_range] at h2
      omega
    refine ⟨hw _, ht i hi H _ s fun H2 s2 => ?_⟩
    have py2 := py.mono fun v b rb => hR v b H H2 _ hy s2.kp rb
    have hy2 := s2 _ _ hy
    by_cases hp : p i = true
    · rw [if_pos hp]
      refine he i hi hp H2 _ (s.trans s2) fun y H' s' r => ⟨ys, s' _ _ hy2, small_app (Nat.le_refl _) ll, ((s.trans s2).trans s').wr hD, ys ++ [y], upd_same, ?_⟩
      rw [List.range_succ, List.filter_append, List.filter_cons, if_pos hp, List.filter_nil]
      exact (py2.mono fun v b rb => hR v b H' _ _ (s' _ _ hy2) (kp_upd D H' _) (hR v b H2 H' _ hy2 s'.kp rb)).snoc (hR y i H' _ _ (s' _ _ hy2) (kp_upd D H' _) r)
    · rw [if_neg hp]
      refine ⟨s.trans s2, ys, hy2, ?_⟩
      rw [List.range_succ, List.filter_append, List.filter_cons, if_neg hp, List.filter_nil, List.append_nil]
      exact py2
  · rintro H ⟨s, ys, hy, py⟩
    exact hd ys H s hy py
theorem filter_all {α : Type} (l : List α) : l.filter (fun _ => true) = l := List.filter_eq_self.mpr fun _ _ => rfl
end
end Tr

namespace Tr
/-! Arithmetic behind common_divisor, combination, inverse. -/

theorem gcd_step {a b : Int} (hb : 0 < b) : Int.gcd b (a % b) = Int.gcd a b := by
  rw [Int.gcd_comm a b]
  have h : a = a % b + b * (a / b) := by have := Int.emod_add_mul_ediv a b; omega
  conv => rhs; rw [h]
  rw [Int.gcd_add_mul_left_right]

structure Comb (a b x0 u0 v0 x1 u1 v1 : Int) : Prop where
  h0 : u0 * a + v0 * b = x0
  h1 : u1 * a + v1 * b = x1
  n0 : 0 ≤ x0
  n1 : 0 ≤ x1
  g : Int.gcd x0 x1 = Int.gcd a b
  sg : (0 ≤ u0 ∧ u1 ≤ 0 ∧ v0 ≤ 0 ∧ 0 ≤ v1 ∧ u0 * x1 - u1 * x0 = b ∧ v1 * x0 - v0 * x1 = a) ∨
       (u0 ≤ 0 ∧ 0 ≤ u1 ∧ 0 ≤ v0 ∧ v1 ≤ 0 ∧ u1 * x0 - u0 * x1 = b ∧ v0 * x1 - v1 * x0 = a)
  bu0 : u0.natAbs ≤ b.natAbs
  bu1 : u1.natAbs ≤ b.natAbs
  bv0 : v0.natAbs ≤ a.natAbs + 1
  bv1 : v1.natAbs ≤ a.natAbs + 1
  bx : x0.natAbs ≤ a.natAbs + b.natAbs
  by_ : x1.natAbs ≤ a.natAbs + b.natAbs

theorem comb_start {a b : Int} (ha : 0 ≤ a) (hb : 0 < b) : Comb a b a 1 0 b 0 1 where
  h0 := by omega
  h1 := by omega
  n0 := ha
  n1 := Int.le_of_lt hb
  g := rfl
  sg := .inl ⟨by omega, by omega, by omega, by omega, by omega, by omega⟩
  bu0 := by omega
  bu1 := by omega
  bv0 := by omega
  bv1 := by omega
  bx := by omega
  by_ := by omega

theorem mul_bound {x y c : Int} (hx : 0 < x) (hy : 0 ≤ y) (h : y * x ≤ c) : y ≤ c := by
  have h1 : y * 1 ≤ y * x := Int.mul_le_mul_of_nonneg_left (by omega) hy
  omega

theorem comb_step {a b x0 u0 v0 x1 u1 v1 : Int} (ha : 0 ≤ a) (hb : 0 < b) (c : Comb a b x0 u0 v0 x1 u1 v1) (hx : x1 ≠ 0) :
    Comb a b x1 u1 v1 (x0 - x0 / x1 * x1) (u0 - x0 / x1 * u1) (v0 - x0 / x1 * v1) := by
  have px : 0 < x1 := by have := c.n1; omega
  have e2 : x0 - x0 / x1 * x1 = x0 % x1 := by
    have := Int.emod_add_mul_ediv x0 x1
    rw [Int.mul_comm] at this
    omega
  have q0 : 0 ≤ x0 / x1 := Int.ediv_nonneg c.n0 c.n1
  have r0 : 0 ≤ x0 % x1 := Int.emod_nonneg _ hx
  have r1 : x0 % x1 < x1 := Int.emod_lt_of_pos _ px
  generalize hq : x0 / x1 = q at *
  have n2 : 0 ≤ x0 - q * x1 := by omega
  have key : (0 ≤ u1 ∧ (u0 - q * u1) ≤ 0 ∧ v1 ≤ 0 ∧ 0 ≤ (v0 - q * v1) ∧ u1 * (x0 - q * x1) - (u0 - q * u1) * x1 = b ∧ (v0 - q * v1) * x1 - v1 * (x0 - q * x1) = a) ∨
       (u1 ≤ 0 ∧ 0 ≤ (u0 - q * u1) ∧ 0 ≤ v1 ∧ (v0 - q * v1) ≤ 0 ∧ (u0 - q * u1) * x1 - u1 * (x0 - q * x1) = b ∧ v1 * (x0 - q * x1) - (v0 - q * v1) * x1 = a) := by
    rcases c.sg with ⟨s1, s2, s3, s4, s5, s6⟩ | ⟨s1, s2, s3, s4, s5, s6⟩
    · refine .inr ⟨s2, ?_, s4, ?_, ?_, ?_⟩
      · have := Int.mul_nonneg q0 (show 0 ≤ -u1 by omega)
        rw [Int.mul_neg] at this
        omega
      · have := Int.mul_nonneg q0 s4
        omega
      · rw [← s5]
        simp only [Int.sub_mul, Int.mul_sub]
        have : q * u1 * x1 = u1 * (q * x1) := by rw [Int.mul_comm q u1, Int.mul_assoc]
        omega
      · rw [← s6]
        simp only [Int.sub_mul, Int.mul_sub]
        have : q * v1 * x1 = v1 * (q * x1) := by rw [Int.mul_comm q v1, Int.mul_assoc]
        omega
    · refine .inl ⟨s2, ?_, s4, ?_, ?_, ?_⟩
      · have := Int.mul_nonneg q0 s2
        omega
      · have := Int.mul_nonneg q0 (show 0 ≤ -v1 by omega)
        rw [Int.mul_neg] at this
        omega
      · rw [← s5]
        simp only [Int.sub_mul, Int.mul_sub]
        have : q * u1 * x1 = u1 * (q * x1) := by rw [Int.mul_comm q u1, Int.mul_assoc]
        omega
      · rw [← s6]
        simp only [Int.sub_mul, Int.mul_sub]
        have : q * v1 * x1 = v1 * (q * x1) := by rw [Int.mul_comm q v1, Int.mul_assoc]
        omega
  have bnd : (u0 - q * u1).natAbs ≤ b.natAbs ∧ (v0 - q * v1).natAbs ≤ a.natAbs + 1 := by
    rcases key with ⟨s1, s2, s3, s4, s5, s6⟩ | ⟨s1, s2, s3, s4, s5, s6⟩
    · have t1 : 0 ≤ u1 * (x0 - q * x1) := Int.mul_nonneg s1 n2
      have t2 : -(u0 - q * u1) * x1 ≤ b := by rw [Int.neg_mul]; omega
      have t3 := mul_bound px (by omega) t2
      have t4 : 0 ≤ -v1 * (x0 - q * x1) := Int.mul_nonneg (by omega) n2
      rw [Int.neg_mul] at t4
      have t5 : (v0 - q * v1) * x1 ≤ a := by omega
      have t6 := mul_bound px s4 t5
      omega
    · have t1 : 0 ≤ -u1 * (x0 - q * x1) := Int.mul_nonneg (by omega) n2
      rw [Int.neg_mul] at t1
      have t2 : (u0 - q * u1) * x1 ≤ b := by omega
      have t3 := mul_bound px s2 t2
      have t4 : 0 ≤ v1 * (x0 - q * x1) := Int.mul_nonneg s3 n2
      have t5 : -(v0 - q * v1) * x1 ≤ a := by rw [Int.neg_mul]; omega
      have t6 := mul_bound px (by omega) t5
      omega
  exact {
    h0 := c.h1
    h1 := by
      have e0 := c.h0
      have e1 := c.h1
      simp only [Int.sub_mul, Int.mul_assoc]
      have : q * x1 = q * (u1 * a) + q * (v1 * b) := by rw [← e1, Int.mul_add]
      omega
    n0 := c.n1
    n1 := n2
    g := by rw [e2, gcd_step px]; exact c.g
    sg := key.elim .inl .inr
    bu0 := c.bu1
    bu1 := bnd.1
    bv0 := c.bv1
    bv1 := bnd.2
    bx := c.by_
    by_ := by have := c.by_; omega }

/-- the quotient of a step is bounded -/
theorem comb_q {a b x0 u0 v0 x1 u1 v1 : Int} (c : Comb a b x0 u0 v0 x1 u1 v1) (hx : x1 ≠ 0) : (x0 / x1).natAbs ≤ a.natAbs + b.natAbs := by
  have px : 0 < x1 := by have := c.n1; omega
  have q0 : 0 ≤ x0 / x1 := Int.ediv_nonneg c.n0 c.n1
  have : x0 / x1 ≤ x0 := Int.ediv_le_self _ c.n0
  have := c.bx
  omega
end Tr
namespace Tr
/-! Classes (r, m): what they cover. -/
abbrev Cl := Int × Int
/-- n lies in one of the classes -/
def cov (cs : List Cl) (n : Int) : Prop := ∃ c ∈ cs, c.2 ∣ n - c.1
theorem cov_nil (n : Int) : ¬ cov [] n := fun ⟨_, h, _⟩ => by cases h
theorem cov_app {a b : List Cl} {n : Int} : cov (a ++ b) n ↔ cov a n ∨ cov b n := by
  constructor
  · rintro ⟨c, h, d⟩
    rcases List.mem_append.mp h with h | h
    · exact .inl ⟨c, h, d⟩
    · exact .inr ⟨c, h, d⟩
  · rintro (⟨c, h, d⟩ | ⟨c, h, d⟩)
    · exact ⟨c, List.mem_append_left _ h, d⟩
    · exact ⟨c, List.mem_append_right _ h, d⟩
/-- every class of the one lies within a class of the other -/
def within (cs ds : List Cl) : Prop := ∀ c ∈ cs, ∃ d ∈ ds, d.2 ∣ c.2 ∧ d.2 ∣ c.1 - d.1
theorem dvd_chain {k m n r s : Int} (h1 : k ∣ m) (h2 : k ∣ r - s) (h3 : m ∣ n - r) : k ∣ n - s := by
  have h4 : k ∣ n - r := Int.dvd_trans h1 h3
  have h5 : n - s = (n - r) + (r - s) := by omega
  rw [h5]
  exact Int.dvd_add h4 h2
theorem cov_within {cs ds : List Cl} (h : within cs ds) {n : Int} (c : cov cs n) : cov ds n := by
  obtain ⟨c, hc, d⟩ := c
  obtain ⟨e, he, h1, h2⟩ := h c hc
  exact ⟨e, he, dvd_chain h1 h2 d⟩
theorem within_refl (cs : List Cl) : within cs cs := fun c hc => ⟨c, hc, Int.dvd_refl _, by rw [Int.sub_self]; exact Int.dvd_zero _⟩
/-- what tidy_classes hands back -/
structure Tidy (cs ds : List Cl) : Prop where
  from_ : ∀ d ∈ ds, ∃ c ∈ cs, d.2 = c.2 ∧ d.1 = c.1 % c.2
  to : within cs ds
  len : ds.length ≤ cs.length
theorem emod_sub_dvd (r m : Int) : m ∣ r - r % m := by
  have := Int.emod_add_mul_ediv r m
  exact ⟨r / m, by omega⟩
theorem Tidy.back {cs ds : List Cl} (t : Tidy cs ds) : within ds cs := fun d hd => by
  obtain ⟨c, hc, e1, e2⟩ := t.from_ d hd
  refine ⟨c, hc, by rw [e1]; exact Int.dvd_refl _, ?_⟩
  rw [e2]
  have := emod_sub_dvd c.1 c.2
  obtain ⟨k, hk⟩ := this
  exact ⟨-k, by rw [Int.mul_neg]; omega⟩
theorem Tidy.cov {cs ds : List Cl} (t : Tidy cs ds) (n : Int) : cov ds n ↔ cov cs n := ⟨cov_within t.back, cov_within t.to⟩
theorem Tidy.pos {cs ds : List Cl} (t : Tidy cs ds) (h : ∀ c ∈ cs, 0 < c.2) : ∀ d ∈ ds, 0 < d.2 ∧ 0 ≤ d.1 ∧ d.1 < d.2 := fun d hd => by
  obtain ⟨c, hc, e1, e2⟩ := t.from_ d hd
  have p := h c hc
  rw [e1, e2]
  exact ⟨p, Int.emod_nonneg _ (by omega), Int.emod_lt_of_pos _ p⟩
theorem Tidy.nil {ds : List Cl} (t : Tidy [] ds) : ds = [] := List.eq_nil_of_length_eq_zero (by have := t.len; simp at this; exact this ▸ rfl)
theorem Tidy.ne {cs ds : List Cl} (t : Tidy cs ds) (h : cs ≠ []) : ds ≠ [] := by
  rintro rfl
  cases cs with
  | nil => exact h rfl
  | cons c r =>
    obtain ⟨d, hd, _⟩ := t.to c List.mem_cons_self
    cases hd
/-- inverse: a * x - 1 is a multiple of m -/
def Inv1 (a m x : Int) : Prop := 0 ≤ x ∧ x < m ∧ m ∣ a * x - 1
theorem inv_of {a m u v : Int} (hm : 0 < m) (h : u * (a % m) + v * m = 1) : Inv1 a m (u % m) := by
  refine ⟨Int.emod_nonneg _ (by omega), Int.emod_lt_of_pos _ hm, ?_⟩
  have e1 := Int.emod_add_mul_ediv u m
  have e2 := Int.emod_add_mul_ediv a m
  -- a * (u % m) - 1 = u * (a % m) + v * m  modulo m
  refine ⟨a / m * u - v - a * (u / m), ?_⟩
  have k1 : u % m = u - m * (u / m) := by omega
  have k2 : u * a = u * (a % m) + u * (m * (a / m)) := by rw [← Int.mul_add, e2]
  rw [k1, Int.mul_sub, Int.mul_comm a u, k2]
  have k3 : u * (m * (a / m)) = m * (a / m * u) := by rw [Int.mul_left_comm, Int.mul_comm u]
  have k4 : a * (m * (u / m)) = m * (a * (u / m)) := by rw [Int.mul_left_comm]
  rw [k3, k4, Int.mul_sub, Int.mul_sub, Int.mul_comm m v]
  omega

/-- the classes of refined, ahead of tidying: of (s, k) the t with r + m * t in it -/
structure Ref1 (s k r m t j : Int) : Prop where
  pos : 0 < j
  bd : j ≤ k
  lo : 0 ≤ t
  hi : t < j
  iff : ∀ x : Int, j ∣ x - t ↔ k ∣ r + m * x - s
theorem gcd_pos' {m k : Int} (hk : 0 < k) : 0 < (Int.gcd m k : Int) := by
  have : Int.gcd m k ≠ 0 := fun h => by
    have := (Int.gcd_eq_zero_iff.mp h).2
    omega
  omega
theorem ediv_gcd {m k : Int} (hk : 0 < k) : ∃ m' k', m = Int.gcd m k * m' ∧ k = Int.gcd m k * k' ∧ 0 < k' ∧ m / Int.gcd m k = m' ∧ k / Int.gcd m k = k' ∧ Int.gcd m' k' = 1 := by
  have g0 := gcd_pos' (m := m) hk
  obtain ⟨m', hm⟩ := Int.gcd_dvd_left m k
  obtain ⟨k', hk'⟩ := Int.gcd_dvd_right m k
  have p : 0 < k' := by
    rcases Int.lt_trichotomy k' 0 with h | h | h
    · have := Int.mul_neg_of_pos_of_neg g0 h
      omega
    · rw [h] at hk'; omega
    · exact h
  have e1 : m / Int.gcd m k = m' := Int.ediv_eq_of_eq_mul_right (by omega) hm
  have e2 : k / Int.gcd m k = k' := Int.ediv_eq_of_eq_mul_right (by omega) hk'
  refine ⟨m', k', hm, hk', p, e1, e2, ?_⟩
  have gn : 0 < Int.gcd m k := by omega
  have e3 : Int.gcd m k = Int.gcd m k * Int.gcd m' k' := by
    have := Int.gcd_mul_left (Int.gcd m k : Int) m' k'
    rw [← hm, ← hk'] at this
    simpa using this
  have e4 : Int.gcd m k * Int.gcd m' k' = Int.gcd m k * 1 := by rw [Nat.mul_one]; exact e3.symm
  exact Nat.eq_of_mul_eq_mul_left gn e4
theorem ref_no {s k r m : Int} (h : ¬ (Int.gcd m k : Int) ∣ s - r) (x : Int) : ¬ k ∣ r + m * x - s := fun d => h (by
  have h1 : (Int.gcd m k : Int) ∣ r + m * x - s := Int.dvd_trans (Int.gcd_dvd_right m k) d
  have h2 : (Int.gcd m k : Int) ∣ m * x := Int.dvd_trans (Int.gcd_dvd_left m k) (Int.dvd_mul_right _ _)
  have h3 : s - r = m * x - (r + m * x - s) := by omega
  rw [h3]
  exact Int.dvd_sub h2 h1)
/-- the case small > 1 -/
theorem ref_yes {s k r m i : Int} (hk : 0 < k) (hd : (Int.gcd m k : Int) ∣ s - r) (hi : Inv1 (m / Int.gcd m k) (k / Int.gcd m k) i) :
    Ref1 s k r m ((s - r) / Int.gcd m k * i % (k / Int.gcd m k)) (k / Int.gcd m k) := by
  obtain ⟨m', k', e1, e2, p, d1, d2, co⟩ := ediv_gcd (m := m) hk
  have g0 := gcd_pos' (m := m) hk
  generalize hg : (Int.gcd m k : Int) = g at *
  obtain ⟨q, hq⟩ := hd
  have dq : (s - r) / g = q := Int.ediv_eq_of_eq_mul_right (by omega) hq
  rw [d1, d2] at hi
  rw [dq, d2]
  obtain ⟨i0, i1, z, hz⟩ := hi
  refine ⟨p, ?_, Int.emod_nonneg _ (by omega), Int.emod_lt_of_pos _ p, fun x => ?_⟩
  · rw [e2]
    have := Int.mul_le_mul_of_nonneg_right (show 1 ≤ g by omega) (Int.le_of_lt p)
    omega
  · -- k | r + m x - s  iff  k' | m' x - q  iff  k' | x - q i
    have a1 : r + m * x - s = g * (m' * x - q) := by
      rw [Int.mul_sub, ← Int.mul_assoc, ← e1, ← hq]
      omega
    have a2 : k ∣ r + m * x - s ↔ k' ∣ m' * x - q := by
      rw [a1]
      constructor
      · rintro ⟨c, hc⟩
        refine ⟨c, ?_⟩
        rw [e2, Int.mul_assoc] at hc
        exact Int.eq_of_mul_eq_mul_left (by omega) hc
      · rintro ⟨c, hc⟩
        exact ⟨c, by rw [hc, ← Int.mul_assoc, ← e2]⟩
    rw [a2]
    have b1 : k' ∣ q * i - q * i % k' := emod_sub_dvd _ _
    constructor
    · intro h
      have h1 : k' ∣ x - q * i := by
        have : x - q * i = (x - q * i % k') - (q * i - q * i % k') := by omega
        rw [this]
        exact Int.dvd_sub h b1
      have h2 : k' ∣ m' * (x - q * i) := Int.dvd_trans h1 (Int.dvd_mul_left _ _)
      have h3 : k' ∣ q * (m' * i - 1) := Int.dvd_trans ⟨z, hz⟩ (Int.dvd_mul_left _ _)
      have h4 : m' * x - q = m' * (x - q * i) + q * (m' * i - 1) := by
        simp only [Int.mul_sub, Int.mul_one]
        have : m' * (q * i) = q * (m' * i) := Int.mul_left_comm _ _ _
        omega
      rw [h4]
      exact Int.dvd_add h2 h3
    · intro h
      have h1 : k' ∣ i * (m' * x - q) := Int.dvd_trans h (Int.dvd_mul_left _ _)
      have h3 : k' ∣ x * (m' * i - 1) := Int.dvd_trans ⟨z, hz⟩ (Int.dvd_mul_left _ _)
      have h4 : x - q * i = i * (m' * x - q) - x * (m' * i - 1) := by
        simp only [Int.mul_sub, Int.mul_one]
        have : i * (m' * x) = x * (m' * i) := by rw [Int.mul_left_comm, Int.mul_comm i x, Int.mul_left_comm]
        have : i * q = q * i := Int.mul_comm _ _
        omega
      have h5 : x - q * i % k' = (x - q * i) + (q * i - q * i % k') := by omega
      rw [h5]
      refine Int.dvd_add ?_ b1
      rw [h4]
      exact Int.dvd_sub h1 h3
/-- the case small = 1 -/
theorem ref_one {s k r m : Int} (hk : 0 < k) (hd : (Int.gcd m k : Int) ∣ s - r) (h1 : ¬ k / Int.gcd m k > 1) : Ref1 s k r m 0 (k / Int.gcd m k) := by
  obtain ⟨m', k', e1, e2, p, d1, d2, co⟩ := ediv_gcd (m := m) hk
  have e : k / Int.gcd m k = 1 := by rw [d2] at h1 ⊢; omega
  have ek : k = (Int.gcd m k : Int) := by
    rw [d2] at e
    rw [e, Int.mul_one] at e2
    exact e2
  rw [e]
  refine ⟨by omega, by omega, by omega, by omega, fun x => ⟨fun _ => ?_, fun _ => Int.one_dvd _⟩⟩
  have h2 : k ∣ m * x := by
    rw [ek]
    exact Int.dvd_trans (Int.gcd_dvd_left m k) (Int.dvd_mul_right _ _)
  have h3 : k ∣ s - r := by rw [ek]; exact hd
  have h4 : r + m * x - s = m * x - (s - r) := by omega
  rw [h4]
  exact Int.dvd_sub h2 h3

/-- what refined builds ahead of tidying -/
inductive RefL (r m : Int) : List Cl → List Cl → Prop where
  | nil : RefL r m [] []
  | no {s k : Int} {cs ds : List Cl} : ¬ (Int.gcd m k : Int) ∣ s - r → RefL r m cs ds → RefL r m ((s, k) :: cs) ds
  | yes {s k t : Int} {cs ds : List Cl} : (Int.gcd m k : Int) ∣ s - r → Ref1 s k r m t (k / Int.gcd m k) → RefL r m cs ds → RefL r m ((s, k) :: cs) ((t, k / Int.gcd m k) :: ds)
theorem RefL.cov {r m : Int} {cs ds : List Cl} (h : RefL r m cs ds) (x : Int) : cov ds x ↔ Tr.cov cs (r + m * x) := by
  induction h with
  | nil => exact ⟨fun c => (cov_nil _ c).elim, fun c => (cov_nil _ c).elim⟩
  | @no s k cs ds hn _ ih =>
    constructor
    · intro c
      obtain ⟨c, hc, d⟩ := ih.mp c
      exact ⟨c, List.mem_cons_of_mem _ hc, d⟩
    · rintro ⟨c, hc, d⟩
      rcases List.mem_cons.mp hc with rfl | hc
      · exact (ref_no hn x d).elim
      · exact ih.mpr ⟨c, hc, d⟩
  | @yes s k t cs ds hd hr _ ih =>
    constructor
    · rintro ⟨c, hc, d⟩
      rcases List.mem_cons.mp hc with rfl | hc
      · exact ⟨(s, k), List.mem_cons_self, (hr.iff x).mp d⟩
      · obtain ⟨c', hc', d'⟩ := ih.mp ⟨c, hc, d⟩
        exact ⟨c', List.mem_cons_of_mem _ hc', d'⟩
    · rintro ⟨c, hc, d⟩
      rcases List.mem_cons.mp hc with rfl | hc
      · exact ⟨_, List.mem_cons_self, (hr.iff x).mpr d⟩
      · obtain ⟨c', hc', d'⟩ := ih.mpr ⟨c, hc, d⟩
        exact ⟨c', List.mem_cons_of_mem _ hc', d'⟩
theorem RefL.snoc_no {r m : Int} {cs ds : List Cl} (h : RefL r m cs ds) {s k : Int} (hn : ¬ (Int.gcd m k : Int) ∣ s - r) : RefL r m (cs ++ [(s, k)]) ds := by
  induction h with
  | nil => exact .no hn .nil
  | no a _ ih => exact .no a ih
  | yes a b _ ih => exact .yes a b ih
theorem RefL.snoc_yes {r m : Int} {cs ds : List Cl} (h : RefL r m cs ds) {s k t : Int} (hn : (Int.gcd m k : Int) ∣ s - r) (hr : Ref1 s k r m t (k / Int.gcd m k)) : RefL r m (cs ++ [(s, k)]) (ds ++ [(t, k / Int.gcd m k)]) := by
  induction h with
  | nil => exact .yes hn hr .nil
  | no a _ ih => exact .no a ih
  | yes a b _ ih => exact .yes a b ih
theorem RefL.len {r m : Int} {cs ds : List Cl} (h : RefL r m cs ds) : ds.length ≤ cs.length := by
  induction h with
  | nil => exact Nat.le_refl _
  | no _ _ ih => simp only [List.length_cons]; omega
  | yes _ _ _ ih => simp only [List.length_cons]; omega
theorem RefL.pos {r m : Int} {cs ds : List Cl} (h : RefL r m cs ds) : ∀ d ∈ ds, 0 < d.2 ∧ 0 ≤ d.1 ∧ d.1 < d.2 := by
  induction h with
  | nil => intro d hd; cases hd
  | no _ _ ih => exact ih
  | yes _ hr _ ih =>
    intro d hd
    rcases List.mem_cons.mp hd with rfl | hd
    · exact ⟨hr.pos, hr.lo, hr.hi⟩
    · exact ih d hd
theorem RefL.bd {r m B : Int} {cs ds : List Cl} (h : RefL r m cs ds) (hb : ∀ c ∈ cs, c.2 ≤ B) : ∀ d ∈ ds, d.2 ≤ B := by
  induction h with
  | nil => intro d hd; cases hd
  | no _ _ ih => exact ih fun c hc => hb c (List.mem_cons_of_mem _ hc)
  | yes _ hr _ ih =>
    intro d hd
    rcases List.mem_cons.mp hd with rfl | hd
    · exact Int.le_trans hr.bd (hb _ List.mem_cons_self)
    · exact ih (fun c hc => hb c (List.mem_cons_of_mem _ hc)) d hd
/-- a class with the modulus m either meets r + m * Z in all of it, or falls away -/
theorem RefL.less {r m : Int} {cs ds : List Cl} (hm : 0 < m) (h : RefL r m cs ds) (hc : ∃ c ∈ cs, c.2 = m) : (∃ d ∈ ds, d.2 = 1) ∨ ds.length < cs.length := by
  induction h with
  | nil => obtain ⟨c, hc, _⟩ := hc; cases hc
  | no _ h' ih => exact .inr (by have := h'.len; simp only [List.length_cons]; omega)
  | @yes s k t cs ds hd hr h' ih =>
    by_cases e : k = m
    · subst e
      refine .inl ⟨_, List.mem_cons_self, ?_⟩
      have : (Int.gcd k k : Int) = k := by rw [Int.gcd_self]; omega
      show k / (Int.gcd k k : Int) = 1
      rw [this]
      exact Int.ediv_self (by omega)
    · obtain ⟨c, hc, ec⟩ := hc
      rcases List.mem_cons.mp hc with rfl | hc
      · exact (e ec).elim
      · rcases ih ⟨c, hc, ec⟩ with ⟨d, hd, ed⟩ | hl
        · exact .inl ⟨d, List.mem_cons_of_mem _ hd, ed⟩
        · exact .inr (by simp only [List.length_cons]; omega)
theorem Tidy.one {cs ds : List Cl} (t : Tidy cs ds) (hp : ∀ c ∈ cs, 0 < c.2) (h : ∃ c ∈ cs, c.2 = 1) : ∃ d ∈ ds, d.2 = 1 := by
  obtain ⟨c, hc, e⟩ := h
  obtain ⟨d, hd, h1, _⟩ := t.to c hc
  refine ⟨d, hd, ?_⟩
  have p := (t.pos hp d hd).1
  rw [e] at h1
  have := Int.le_of_dvd (by omega) h1
  omega

/-- the answer of bare_number -/
def Bare (cs : List Cl) : Option Int → Prop
  | none => ∀ n, cov cs n
  | some b => 0 ≤ b ∧ ¬ cov cs b
/-- a number within the first ones that none of the classes has: their moduli are above their number -/
theorem pigeon : ∀ (cs : List Cl), (∀ c ∈ cs, (cs.length : Int) < c.2) → ∃ n : Int, 0 ≤ n ∧ n ≤ cs.length ∧ ¬ cov cs n := by
  intro cs h
  -- each class has at most one of 0 .. length
  have gen : ∀ (ds : List Cl) (L : List Int) (N : Int), L.Nodup → (∀ x ∈ L, 0 ≤ x ∧ x ≤ N) → (∀ c ∈ ds, N < c.2) → ds.length < L.length → ∃ n ∈ L, ¬ cov ds n := by
    intro ds
    induction ds with
    | nil =>
      intro L N _ _ _ hl
      cases L with
      | nil => simp at hl
      | cons x L => exact ⟨x, List.mem_cons_self, cov_nil _⟩
    | cons d ds ih =>
      intro L N nd hL hc hl
      -- at most one member of L lies in d
      have one : ∀ x ∈ L, ∀ y ∈ L, d.2 ∣ x - d.1 → d.2 ∣ y - d.1 → x = y := by
        intro x hx y hy h1 h2
        have h3 : d.2 ∣ x - y := by
          have : x - y = (x - d.1) - (y - d.1) := by omega
          rw [this]
          exact Int.dvd_sub h1 h2
        have b := hc d List.mem_cons_self
        have bx := hL x hx
        have b_y := hL y hy
        obtain ⟨q, hq⟩ := h3
        have q0 : q = 0 := by
          rcases Int.lt_trichotomy q 0 with z | z | z
          · have := Int.mul_le_mul_of_nonneg_left (show q ≤ -1 by omega) (show 0 ≤ d.2 by omega)
            omega
          · exact z
          · have := Int.mul_le_mul_of_nonneg_left (show 1 ≤ q by omega) (show 0 ≤ d.2 by omega)
            omega
        rw [q0] at hq
        omega
      by_cases ex : ∃ x ∈ L, d.2 ∣ x - d.1
      · obtain ⟨x, hx, hd⟩ := ex
        obtain ⟨n, hn, hn2⟩ := ih (L.erase x) N (nd.erase _) (fun y hy => hL y (List.mem_of_mem_erase hy)) (fun c hc' => hc c (List.mem_cons_of_mem _ hc'))
          (by rw [List.length_erase_of_mem hx]; simp only [List.length_cons] at hl; omega)
        have hnL := List.mem_of_mem_erase hn
        refine ⟨n, hnL, ?_⟩
        rintro ⟨c, hc', hcd⟩
        rcases List.mem_cons.mp hc' with rfl | hc'
        · have e := one n hnL x hx hcd hd
          subst e
          exact (List.Nodup.not_mem_erase nd) hn
        · exact hn2 ⟨c, hc', hcd⟩
      · obtain ⟨n, hn, hn2⟩ := ih L N nd hL (fun c hc' => hc c (List.mem_cons_of_mem _ hc')) (by simp only [List.length_cons] at hl; omega)
        refine ⟨n, hn, ?_⟩
        rintro ⟨c, hc', hcd⟩
        rcases List.mem_cons.mp hc' with rfl | hc'
        · exact ex ⟨n, hn, hcd⟩
        · exact hn2 ⟨c, hc', hcd⟩
  obtain ⟨n, hn, hc⟩ := gen cs ((List.range (cs.length + 1)).map (fun i : Nat => (i : Int))) cs.length (by
      refine List.Pairwise.map _ (fun a b (h : a ≠ b) e => h (by omega)) List.nodup_range) (fun x hx => by
      obtain ⟨i, hi, rfl⟩ := List.mem_map.mp hx
      have := List.mem_range.mp hi
      omega) h (by simp)
  obtain ⟨i, hi, rfl⟩ := List.mem_map.mp hn
  have := List.mem_range.mp hi
  exact ⟨i, by omega, by omega, hc⟩
end Tr

namespace Tr
open PySem L2
/-! ### bounds -/
def Bd (n : Nat) (x : Int) : Prop := x.natAbs < 2 ^ n
theorem Bd.mono {n m : Nat} {x : Int} (h : Bd n x) (l : n ≤ m) : Bd m x := Nat.lt_of_lt_of_le h (Nat.pow_le_pow_right (by decide) l)
theorem Bd.le {n : Nat} {x y : Int} (h : Bd n x) (l : y.natAbs ≤ x.natAbs) : Bd n y := Nat.lt_of_le_of_lt l h
theorem Bd.mul {n m : Nat} {x y : Int} (h : Bd n x) (k : Bd m y) : Bd (n + m) (x * y) := wide_lt h k
theorem Bd.add {n m : Nat} {x y : Int} (h : Bd n x) (k : Bd n y) (l : n < m) : Bd m (x + y) := by
  refine Bd.mono (n := n + 1) ?_ l
  have h' : x.natAbs < 2 ^ n := h
  have k' : y.natAbs < 2 ^ n := k
  show (x + y).natAbs < 2 ^ (n + 1)
  have := Int.natAbs_add_le x y
  rw [Nat.pow_succ]
  omega
theorem Bd.neg {n : Nat} {x : Int} (h : Bd n x) : Bd n (-x) := h.le (by simp)
theorem Bd.sub {n m : Nat} {x y : Int} (h : Bd n x) (k : Bd n y) (l : n < m) : Bd m (x - y) := by
  rw [Int.sub_eq_add_neg]
  exact h.add k.neg l
theorem Bd.div {n : Nat} {x y : Int} (h : Bd n x) (hy : 0 < y) : Bd n (x / y) := h.le (Int.natAbs_ediv_le_natAbs x y)
theorem Bd.mod {n : Nat} {x y : Int} (h : Bd n y) (hy : 0 < y) : Bd n (x % y) := by
  have := Int.emod_nonneg x (show y ≠ 0 by omega)
  have := Int.emod_lt_of_pos x hy
  exact h.le (by omega)
theorem Bd.two {n : Nat} {a b x : Int} (h : Bd n a) (k : Bd n b) (l : x.natAbs ≤ a.natAbs + b.natAbs) : Bd (n + 1) x := by
  have h' : a.natAbs < 2 ^ n := h
  have k' : b.natAbs < 2 ^ n := k
  show x.natAbs < 2 ^ (n + 1)
  rw [Nat.pow_succ]
  omega
theorem Bd.one {n : Nat} {a x : Int} (h : Bd n a) (l : x.natAbs ≤ a.natAbs + 1) : Bd (n + 1) x := by
  have h' : a.natAbs < 2 ^ n := h
  show x.natAbs < 2 ^ (n + 1)
  rw [Nat.pow_succ]
  have := Nat.two_pow_pos n
  omega
theorem cmulw {n m : Nat} {x y : Int} (h : Bd n x) (k : Bd m y) (l : n + m ≤ 900000) : CMulW x y :=
  wide_mul (a := n + 1) (b := m + 1) (h.mono (Nat.le_succ _)) (k.mono (Nat.le_succ _)) (Nat.succ_pos _) (Nat.succ_pos _) (by omega)
theorem cdivw {m : Nat} {x y : Int} (hy : 0 < y) (k : Bd m y) (l : m ≤ 8999) : CDivW x y :=
  wide_div (b := m + 1) hy (k.mono (Nat.le_succ _)) (Nat.succ_pos _) (by omega)

theorem dI (a b : Int) : decide (V.int a = V.int b) = decide (a = b) := by
  rw [dec_int, Bool.beq_eq_decide_eq]
theorem iteB {b : Bool} {A B : Prop} (h1 : b = true → A) (h2 : b = false → B) : if b = true then A else B := by
  cases b
  · rw [if_neg Bool.false_ne_true]; exact h2 rfl
  · rw [if_pos rfl]; exact h1 rfl
theorem of_dI {a b : Int} (h : decide (V.int a = V.int b) = true) : a = b := by rw [dI] at h; exact of_decide_eq_true h
theorem of_dI' {a b : Int} (h : decide (V.int a = V.int b) = false) : a ≠ b := by rw [dI] at h; exact of_decide_eq_false h
end Tr

/-! # Classes: their making, methods, own operators. -/
namespace Tr
open PySem PySem.Spec PyProof.Rows L2

/-- a method of the class at C, as the top has left it -/
structure Mth (K : PySem.W.Frag) (C : Addr) (m qual : Str) (st : Stmt) : Prop where
  cls : Cls K C
  ex : ∃ f fd, Meth K C m f ∧ Fun K m qual st f fd
/-- a property -/
structure Prp (K : PySem.W.Frag) (C : Addr) (m qual : Str) (st : Stmt) : Prop where
  cls : Cls K C
  ex : ∃ p g fd, PropOf K C m p g ∧ Fun K m qual st g fd
/-- a class that is made by its name, n defaults -/
structure Ini (K : PySem.W.Frag) (mg : Str → Option Value) (x qual : Str) (C : Addr) (st : Stmt) (n : Nat) : Prop where
  ex : ∃ f fd dvs, Mk K C f ∧ mg x = some (.ref C) ∧ FunD K "__init__" qual (defArgs st) (defBody st) (defScope st) dvs [] f fd ∧ dvs.length = n
/-- a property that may be read -/
structure Pro (P : Program) (w : World) (K : PySem.W.Frag) (mg : Str → Option Value) (base : Heap) (k : Nat) (C : Addr) (m : Str) (sp : Sp) : Prop where
  ex : ∃ (p g : Addr) (fd : FuncData) (ps : List Str), Cls K C ∧ PropOf K C m p g ∧ FnOk P w K mg base (L2.CX P w) k g fd ps sp ∧ Binds K fd ps []

section
variable {P : Program} {w : World} {K : PySem.W.Frag} {mg : Str → Option Value} {base : Heap}
theorem Met.mono {j k : Nat} {C : Addr} {x : Str} {sp : Sp} {dvs : List V} (c : Met P w K mg base j C x sp dvs) (h : j ≤ k) : Met P w K mg base k C x sp dvs :=
  let ⟨f, fd, ps, ds, a, b, F, r⟩ := c.ex
  ⟨f, fd, ps, ds, a, b, F.mono h, r⟩
theorem Mak.mono {j k : Nat} {C : Addr} {x : Str} {sp : Sp} {dvs : List V} (c : Mak P w K mg base j x C sp dvs) (h : j ≤ k) : Mak P w K mg base k x C sp dvs :=
  let ⟨f, fd, ps, ds, a, F, r⟩ := c.ex
  ⟨f, fd, ps, ds, a, F.mono h, r⟩
theorem metN {m qual : Str} {C : Addr} {st : Stmt} {N ps : List Str} {k : Nat} {sp : Sp} (D : Mth K C m qual st) (S : FnScope N ps (defScope st)) (len : ∀ vs H Q E, sp vs H Q E → vs.length = ps.length)
    (hb : ∀ (kV doc pm : Value) (an : Option Addr) (cdv ct : Value) (us : List Value), us.length = ps.length → bindArgs (PySem.W.fnOf m qual (defArgs st) (defBody st) (defScope st) .none kV doc pm an cdv ct) ⟨us, []⟩ = pure (ps.zip us))
    (hbody : ∀ (f : Addr) (cdv : Value) (A : Around) (outer : List Env) (s : Shared) (H : Hp) (vs : List V) (Q : VK) (E : XK), Room k (A.deeper (envOfC qual (defScope st) s.heap.objs.size f cdv)) → sp vs H Q E →
      ∃ t, PSs (cxOf (L2.CX P w) P w K mg base N qual (defScope st) f cdv A outer s H E).nox (defBody st) t ∧ t { nx := fun _ H' => Q .non H', rt := Q } (start N vs) H) : Met P w K mg base (k + 1) C m sp [] :=
  let ⟨f, fd, M, F⟩ := D.ex
  ⟨f, fd, ps, [], D.cls, M, okN F S len (hbody f), F.binds hb, .nil⟩
theorem metX {m qual : Str} {C : Addr} {st : Stmt} {N ps : List Str} {k : Nat} {sp : Sp} (D : Mth K C m qual st) (S : FnScope N ps (defScope st)) (len : ∀ vs H Q E, sp vs H Q E → vs.length = ps.length)
    (hb : ∀ (kV doc pm : Value) (an : Option Addr) (cdv ct : Value) (us : List Value), us.length = ps.length → bindArgs (PySem.W.fnOf m qual (defArgs st) (defBody st) (defScope st) .none kV doc pm an cdv ct) ⟨us, []⟩ = pure (ps.zip us))
    (hbody : ∀ (f : Addr) (cdv : Value) (A : Around) (outer : List Env) (s : Shared) (H : Hp) (vs : List V) (Q : VK) (E : XK), Room k (A.deeper (envOfC qual (defScope st) s.heap.objs.size f cdv)) → sp vs H Q E →
      ∃ t, PSs (cxOf (L2.CX P w) P w K mg base N qual (defScope st) f cdv A outer s H E) (defBody st) t ∧ t { nx := fun _ H' => Q .non H', rt := Q } (start N vs) H) : Met P w K mg base (k + 1) C m sp [] :=
  let ⟨f, fd, M, F⟩ := D.ex
  ⟨f, fd, ps, [], D.cls, M, F.okX S len (hbody f), F.binds hb, .nil⟩
theorem proN {m qual : Str} {C : Addr} {st : Stmt} {N ps : List Str} {k : Nat} {sp : Sp} (D : Prp K C m qual st) (S : FnScope N ps (defScope st)) (len : ∀ vs H Q E, sp vs H Q E → vs.length = ps.length)
    (hb : ∀ (kV doc pm : Value) (an : Option Addr) (cdv ct : Value) (us : List Value), us.length = ps.length → bindArgs (PySem.W.fnOf m qual (defArgs st) (defBody st) (defScope st) .none kV doc pm an cdv ct) ⟨us, []⟩ = pure (ps.zip us))
    (hbody : ∀ (f : Addr) (cdv : Value) (A : Around) (outer : List Env) (s : Shared) (H : Hp) (vs : List V) (Q : VK) (E : XK), Room k (A.deeper (envOfC qual (defScope st) s.heap.objs.size f cdv)) → sp vs H Q E →
      ∃ t, PSs (cxOf (L2.CX P w) P w K mg base N qual (defScope st) f cdv A outer s H E).nox (defBody st) t ∧ t { nx := fun _ H' => Q .non H', rt := Q } (start N vs) H) : Pro P w K mg base (k + 1) C m sp :=
  let ⟨p, g, fd, M, F⟩ := D.ex
  ⟨p, g, fd, ps, D.cls, M, okN F S len (hbody g), F.binds hb⟩
/-- all parameters written -/
theorem binds_all {x qual : Str} {params : Arguments} {body : List Stmt} {scope : Scope} {dvs : List V} {f : Addr} {fd : FuncData} {ps : List Str} (F : FunD K x qual params body scope dvs [] f fd) (n : Nat) (hn : n = ps.length)
    (h : ∀ (T : Addr) (kV doc pm : Value) (an : Option Addr) (cdv ct : Value) (us its : List Value), us.length = n → its.length = dvs.length →
      ∃ k, bindArgs (PySem.W.fnOf x qual params body scope (.ref T) kV doc pm an cdv ct) ⟨us, []⟩ = seqItems? (.ref T) >>= k ∧ k (some its.toArray) = pure (ps.zip (us ++ []))) (hd : dvs ≠ []) : Binds K fd ps [] := by
  obtain ⟨ds, r, b⟩ := F.binds1 (ps := ps) n dvs.length hd (by omega) (fun T kV doc pm an cdv ct us its h1 h2 => by
    obtain ⟨k, e1, e2⟩ := h T kV doc pm an cdv ct us its h1 h2
    refine ⟨k, e1, ?_⟩
    rw [e2, ← h2, List.drop_length])
  rw [List.drop_length] at r
  cases r
  exact b
theorem makN {x qual : Str} {C : Addr} {st : Stmt} {n : Nat} {N ps : List Str} {k : Nat} {sp : Sp} (D : Ini K mg x qual C st n) (S : FnScope N ps (defScope st)) (len : ∀ vs H Q E, sp vs H Q E → vs.length = ps.length)
    (hb : ∀ dvs f fd, dvs.length = n → FunD K "__init__" qual (defArgs st) (defBody st) (defScope st) dvs [] f fd → Binds K fd ps [])
    (hbody : ∀ (f : Addr) (cdv : Value) (A : Around) (outer : List Env) (s : Shared) (H : Hp) (vs : List V) (Q : VK) (E : XK), Room k (A.deeper (envOfC qual (defScope st) s.heap.objs.size f cdv)) → sp vs H Q E →
      ∃ t, PSs (cxOf (L2.CX P w) P w K mg base N qual (defScope st) f cdv A outer s H E).nox (defBody st) t ∧ t { nx := fun _ H' => Q .non H', rt := Q } (start N vs) H) : Mak P w K mg base (k + 1) x C sp [] :=
  let ⟨f, fd, dvs, M, hm, F, hl⟩ := D.ex
  ⟨f, fd, ps, [], M, F.ok S len (fun cdv A outer s H vs Q E hr h =>
    let ⟨t, h1, h2⟩ := hbody f cdv A outer s H vs Q E hr h
    ⟨t, h1.nox, h2⟩), hm, hb dvs f fd hl F, .nil⟩
end

section
variable {X : Cx} {k j : Nat} {C : Addr} {x m : Str} {sp : Sp} {dvs : List V} {p pos apos : Pos} {e o : Expr} {es : List Expr} {ta : TE} {t : TA} {E : XK}
theorem pe_mkx (c : Mak X.prog X.w X.K X.mg X.base k x C sp dvs) (hr : Room j X.A) (hk : k + 1 ≤ j) (hg : Gl X x) (hx : Passes (L2.CX X.prog X.w) X E) (ha : PA X (e :: es) t)
    (hdb : (x == ("__debug__" : Str)) = false := by decide) (he : starEach (e :: es) X.env = (false, eval e X.env) :: starEach es X.env := by rfl) (hpl : (backTo pos (starEach es X.env)).any (·.1) = false := by rfl) :
    PE X (.Call (.Name x p) (e :: es) [] pos) (tMake C sp dvs E t) := by
  obtain ⟨f, fd, ps, ds, M, F, hm, b, d⟩ := c.ex
  exact pe_make M F (hr.mono hk) hg hm b d hx ha hdb he hpl
theorem pe_mtx {pl : Sem Bool} (c : Met X.prog X.w X.K X.mg X.base k C m sp dvs) (hr : Room j X.A) (hk : k ≤ j) (hx : Passes (L2.CX X.prog X.w) X E) (he : PE X o ta) (ha : PA X (e :: es) t)
    (hst : starEach (e :: es) X.env = (false, eval e X.env) :: starEach es X.env := by rfl) (hpl : (backTo pos (starEach es X.env)).any (·.1) = false := by rfl)
    (ht : eval (.Call (.Attribute o m apos) (e :: es) [] pos) X.env = (do
      let ov ← eval o X.env
      standAt apos.atName
      let (f, first) ← holding [ov] (getMethod ov m pl)
      callWith pos f first (backTo pos (starEach (e :: es) X.env)) (backToKw pos (keywordEach [] X.env))) := by rfl) :
    PE X (.Call (.Attribute o m apos) (e :: es) [] pos) (tMeth C m sp dvs E ta t) := by
  obtain ⟨f, fd, ps, ds, hc, hm, F, b, d⟩ := c.ex
  exact pe_meth (pl := pl) he hc hm F (hr.mono hk) b d hx ha hst hpl ht
theorem pe_mtx0 {pl : Sem Bool} (c : Met X.prog X.w X.K X.mg X.base k C m sp dvs) (hr : Room j X.A) (hk : k ≤ j) (hx : Passes (L2.CX X.prog X.w) X E) (he : PE X o ta)
    (ht : eval (.Call (.Attribute o m apos) [] [] pos) X.env = (do
      let ov ← eval o X.env
      standAt apos.atName
      let (f, first) ← holding [ov] (getMethod ov m pl)
      callWith pos f first (backTo pos (starEach [] X.env)) (backToKw pos (keywordEach [] X.env))) := by rfl) :
    PE X (.Call (.Attribute o m apos) [] [] pos) (tMeth C m sp dvs E ta tNil) := by
  obtain ⟨f, fd, ps, ds, hc, hm, F, b, d⟩ := c.ex
  exact pe_meth0 (pl := pl) he hc hm F (hr.mono hk) b d hx ht
theorem pe_px (c : Pro X.prog X.w X.K X.mg X.base k C m sp) (hr : Room j X.A) (hk : k + 1 ≤ j) (he : PE X e ta) (hx : Passes (L2.CX X.prog X.w) X.nox E)
    (hab : attributeBase e m X.env (eval e X.env) = eval e X.env := by rfl) : PE X (.Attribute e m pos) (tProp C sp [] E ta) := by
  obtain ⟨p, g, fd, ps, hc, hp, F, b⟩ := c.ex
  exact pe_prop he hc hp F (hr.mono hk) b .nil hx hab
end

/-! ### own operators -/
section
variable {X : Cx} {k : Nat} {C : Addr} {sp : Sp} {E : XK}
theorem run_at {CX : CXT} {f : Addr} {fd : FuncData} {ps : List Str} {pins : List (Addr × Obj)} {σ : L2.St} {H : Hp} {s : Shared} {Q : VK} {us : List Value} {vs : List V} {A : Around} (F : FnOk X.prog X.w X.K X.mg X.base CX k f fd ps sp) (hr : Room k A) (hf : A.frames = X.A.frames)
    (hb : Binds X.K fd ps []) (hx : Passes CX X E) (I : Inv X pins σ H s) (r : Vals vs us) (h : sp vs H Q E) : wpAny (model X.prog X.w) A (call (.ref f) us) (EP X pins σ Q) X.xe s := by
  have e0 : Env0 X.prog X.w X.K X.mg X.base A X.stack s H := by
    have e := I.env0
    exact ⟨by rw [hf]; exact e.frames, e.mod, e.bs, e.bsz, e.funs, e.frf, e.hok, e.bare⟩
  have hl : (us ++ []).length = ps.length := by rw [List.append_nil, ← r.length]; exact F.len _ _ _ _ h
  have b := hb s us I.kIn hl
  rw [List.append_nil] at b
  refine wpAny_call (codeAny_mono (F.run A X.stack s H ⟨us, []⟩ us vs Q E hr e0 b r h) fun r s' hq => ?_)
  cases r with
  | error e => exact hx pins σ H s e s' I hq
  | ok fl =>
    cases fl with
    | ret u => exact I.after hq
    | next => exact False.elim hq
    | brk => exact False.elim hq
    | cont => exact False.elim hq
/-- the reading of an own operator -/
def rOwn (C : Addr) (sp : Sp) (E : XK) (g : V → V → List V) (out : Bool → V) : V → V → V → Hp → VK → Prop := fun o x y H Q => ∃ a dx fs, o = .ref a ∧ H a = some (.ins C dx fs) ∧ sp (g x y) H (fun v H' => ∃ b, v = .bl b ∧ Q (out b) H') E
def rInO (C : Addr) (sp : Sp) (E : XK) (out : Bool → V) : R2 := fun x y H Q => ∃ a dx fs, y = .ref a ∧ H a = some (.ins C dx fs) ∧ sp [y, x] H (fun v H' => ∃ b, v = .bl b ∧ Q (out b) H') E
theorem or_inO (c : Met X.prog X.w X.K X.mg X.base k C "__contains__" sp []) {j : Nat} (hr : Room j X.A) (hk : k ≤ j) (hx : Passes (L2.CX X.prog X.w) X E) : OpR X (compareOp .In) (rInO C sp E .bl) := by
  obtain ⟨f, fd, ps, ds, hc, hm, F, b, d⟩ := c.ex
  cases d
  intro pins s σ H x y v u Q I rx ry h
  obtain ⟨a, dx, fs, rfl, ha, h⟩ := h
  cases ry
  obtain ⟨mA, J, _⟩ := ins_get I.hok ha
  obtain ⟨od, J, _⟩ := J.look
  obtain ⟨m, hF⟩ := I.fr
  refine PySem.W.in_K hF I.ok.mod.kin J hm.at_ hm.fn ?_
  refine wpAny_mono (run_at F (hr.mono hk) rfl b hx I (us := [.ref a, v]) (vs := [.ref a, x]) (.cons rfl (.cons rx .nil)) h) (fun r s' q => ?_) fun _ _ z => z
  obtain ⟨z, H', I', rz, b', rfl, q⟩ := q
  cases rz
  exact wpAny_truthy_bool ⟨.bl b', H', I', rfl, q⟩
theorem or_notInO (c : Met X.prog X.w X.K X.mg X.base k C "__contains__" sp []) {j : Nat} (hr : Room j X.A) (hk : k ≤ j) (hx : Passes (L2.CX X.prog X.w) X E) : OpR X (compareOp .NotIn) (rInO C sp E fun b => .bl (!b)) := by
  obtain ⟨f, fd, ps, ds, hc, hm, F, b, d⟩ := c.ex
  cases d
  intro pins s σ H x y v u Q I rx ry h
  obtain ⟨a, dx, fs, rfl, ha, h⟩ := h
  cases ry
  obtain ⟨mA, J, _⟩ := ins_get I.hok ha
  obtain ⟨od, J, _⟩ := J.look
  obtain ⟨m, hF⟩ := I.fr
  refine PySem.W.notIn_K hF I.ok.mod.kin J hm.at_ hm.fn ?_
  refine wpAny_mono (run_at F (hr.mono hk) rfl b hx I (us := [.ref a, v]) (vs := [.ref a, x]) (.cons rfl (.cons rx .nil)) h) (fun r s' q => ?_) fun _ _ z => z
  obtain ⟨z, H', I', rz, b', rfl, q⟩ := q
  cases rz
  exact wpAny_truthy_bool ⟨.bl (!b'), H', I', rfl, q⟩
/-- == of two instances of one class -/
def rEqO (C : Addr) (sp : Sp) (E : XK) (out : Bool → V) : R2 := fun x y H Q => ∃ a dx fs b dy gs, x = .ref a ∧ y = .ref b ∧ H a = some (.ins C dx fs) ∧ H b = some (.ins C dy gs) ∧ sp [x, y] H (fun v H' => ∃ b, v = .bl b ∧ Q (out b) H') E
theorem or_eqO (c : Met X.prog X.w X.K X.mg X.base k C "__eq__" sp []) {j : Nat} (hr : Room j X.A) (hk : k ≤ j) (hx : Passes (L2.CX X.prog X.w) X E) : OpR X (compareOp .Eq) (rEqO C sp E .bl) := by
  obtain ⟨f, fd, ps, ds, hc, hm, F, b, d⟩ := c.ex
  cases d
  intro pins s σ H x y v u Q I rx ry h
  obtain ⟨a, dx, fs, c, dy, gs, rfl, rfl, ha, hc', h⟩ := h
  cases rx
  cases ry
  obtain ⟨mA, J, _⟩ := ins_get I.hok ha
  obtain ⟨mB, J', _⟩ := ins_get I.hok hc'
  obtain ⟨od, J, _⟩ := J.look
  obtain ⟨od', J', _⟩ := J'.look
  obtain ⟨m, hF⟩ := I.fr
  show wpAny (model X.prog X.w) X.A (richCompare .Eq (.ref a) (.ref c)) _ _ s
  refine PySem.W.cmp_K (op := .Eq) (tb := .ref C) hr.units0 hF I.ok.mod.kin J J'.type (by simp [PySem.W.notFirst]) hm.at_ hm.fn ?_
  refine wpAny_mono (run_at F (hr.mono hk) rfl b hx I (us := [.ref a, .ref c]) (vs := [.ref a, .ref c]) (.cons rfl (.cons rfl .nil)) h) (fun r s' q => ?_) fun _ _ z => z
  obtain ⟨z, H', I', rz, b', rfl, q⟩ := q
  cases rz
  exact ⟨.bl b', H', I', rfl, q⟩

/-- what != of a class without own __ne__ leans on -/
structure NeOf (K : PySem.W.Frag) (C : Addr) : Prop where
  ne : PySem.W.findIn K (.ref C) "__ne__" = some (some (.builtin "object.__ne__"))
  mro : PySem.W.mroIn K C (.type "object") = some true
theorem ifBound_ne {M : Model} {A : Around} {E : Value → Shared → Prop} {s : Shared} {K : PySem.W.Frag} {x C : Addr} {ox : Obj} {od : Option Obj} {args : List Value} {Q : Option Value → Shared → Prop} (X : K.In s.heap) (I : PySem.W.InstAt s.heap x ox C od) (hs : PySem.W.findIn K (.ref C) "__ne__" = some (some (.builtin "object.__ne__")))
    (h : wpAny M A (call (.builtin "object.__ne__") (.ref x :: args)) (fun v => Q (some v)) E s) : wpAny M A (callSpecialIfBound? (.ref x) "__ne__" args) Q E s := by
  simp only [callSpecialIfBound?, bindSpecialIfBound?]
  refine wpAny_holding (wpAny_bind (wpAny_bind (wpAny_bind (I.type.here ((PySem.W.looks_findIn X hs).here ?_)))))
  refine wpAny_bind (wpAny_askSetting (wpAny_ite ?_))
  have fin : wpAny M A (call (.builtin "object.__ne__") ([.ref x] ++ args) >>= fun v => pure (some v)) Q E s := wpAny_bind (wpAny_mono h (fun v s' h' => wpAny_pure h') fun _ _ h' => h')
  split
  · exact wpAny_bind (wpAny_of_eq (F.cmp_object.ne.bind _) (wpAny_pure (by exact fin)))
  · exact wpAny_tryCatch (wpAny_bind (wpAny_of_eq (F.cmp_object.ne.bind _) (wpAny_pure (by exact fin))))
theorem entry_ne {prog : Program} {w : World} {A : Around} {E : Value → Shared → Prop} {s : Shared} {K : PySem.W.Frag} {x C f : Addr} {b : Value} {ox : Obj} {od : Option Obj} {Q : Fin → Shared → Prop} (hu : A.units < cLine) (X : K.In s.heap) (I : PySem.W.InstAt s.heap x ox C od)
    (hs : PySem.W.findIn K (.ref C) "__eq__" = some (some (.ref f))) (hf : PySem.W.isFn K (.ref f) = true)
    (h : wpAny (model prog w) A (call (.ref f) [.ref x, b]) (fun v s' => ∃ b, v = .bool b ∧ Q (.done (.ret (.bool (!b)))) s') E s) : wpAny (model prog w) A (Builtin.«object.__ne__» ⟨[.ref x, b], []⟩) Q E s := by
  unfold Builtin.«object.__ne__»
  repeat (first
    | with_reducible refine wpAny_cRoomFor hu ?_
    | (refine wpAny_bind (m := callSpecialIfBound? (.ref x) (Str.ofString "__eq__") [b]) (PySem.W.ifBound_K X I hs hf (wpAny_mono h (fun r s' hr => by
          obtain ⟨b, rfl, hq⟩ := hr
          repeat (first | exact hq | exact wpAny_pure hq | exact wpAny_truthy_bool hq | (refine wpAny_bind (m := truthy (.bool _)) (wpAny_truthy_bool ?_)) | wp_step)) fun _ _ e => e)))
    | wp_step)
theorem ne_K {prog : Program} {w : World} {A : Around} {E : Value → Shared → Prop} {s : Shared} {K : PySem.W.Frag} {x C L f : Addr} {h₀ : Heap} {m : Str → Option Value} {ox : Obj} {od : Option Obj} {b tb : Value} {Q : Value → Shared → Prop} (hu : A.units + 1 < cLine) (FF : Fr h₀ L s.heap m) (X₀ : K.In h₀) (I : PySem.W.InstAt s.heap x ox C od) (hb : PySem.W.Looks (model prog w) s.heap (typeOf b) tb)
    (hn : PySem.W.notFirst K C tb = true) (n : NeOf K C) (hs : PySem.W.findIn K (.ref C) "__eq__" = some (some (.ref f))) (hf : PySem.W.isFn K (.ref f) = true)
    (h : wpAny (model prog w) A.in1 (call (.ref f) [.ref x, b]) (fun v s' => ∃ b, v = .bool b ∧ Q (.bool (!b)) s') E s) : wpAny (model prog w) A (richCompare .NotEq (.ref x) b) Q E s := by
  have X := X₀.keeps FF.keep
  have one : wpAny (model prog w) A (tryCompare (.ref x) (cmpInfo .NotEq).2.1 b) (fun r s' => ∃ v, r = some v ∧ Q v s') E s := by
    unfold tryCompare
    refine wpAny_bind (ifBound_ne X I n.ne (wpAny_call (codeAny_call_builtin F.cmp_object.ne.plain F.cmpEntry_ne (PySem.W.check_slot F.cmpKind_ne F.cmpSplit_ne (I.type.andThen (PySem.W.looks_mroIn X n.mro)) (F.cmpArgs_ne _ _)
      (entry_ne (A := A.in1) hu X I hs hf (wpAny_mono h (fun v s' hv => ?_) fun _ _ e => e))))))
    obtain ⟨c, rfl, hq⟩ := hv
    exact ⟨c, rfl, wpAny_pure ⟨_, rfl, hq⟩⟩
  unfold richCompare
  simp only [oneThing_ref]
  refine wpAny_holding (wpAny_bind (wpAny_cRoomFor (Nat.lt_of_succ_lt hu) ?_))
  refine wpAny_bind (I.type.here (wpAny_bind (hb.here ?_)))
  split
  · rename_i q
    have e : PySem.W.subIn K tb (.ref C) = some false := by
      rcases Bool.or_eq_true_iff.mp hn with e | e
      · rw [beq_iff_eq.mp e] at q; simp at q
      · exact beq_iff_eq.mp e
    refine wpAny_bind ((PySem.W.looks_subIn X e).here ?_)
    simp only [Bool.false_eq_true, if_false]
    refine wpAny_bind (wpAny_mono one (fun r s' z => ?_) fun _ _ e => e)
    obtain ⟨v, rfl, hq⟩ := z
    exact wpAny_pure hq
  · refine wpAny_bind (wpAny_pure ?_)
    simp only [Bool.false_eq_true, if_false]
    refine wpAny_bind (wpAny_mono one (fun r s' z => ?_) fun _ _ e => e)
    obtain ⟨v, rfl, hq⟩ := z
    exact wpAny_pure hq
theorem or_neO (c : Met X.prog X.w X.K X.mg X.base k C "__eq__" sp []) (n : NeOf X.K C) {j : Nat} (hr : Room j X.A) (hk : k + 1 ≤ j) (hx : Passes (L2.CX X.prog X.w) X E) : OpR X (compareOp .NotEq) (rEqO C sp E fun b => .bl (!b)) := by
  obtain ⟨f, fd, ps, ds, hc, hm, F, b, d⟩ := c.ex
  cases d
  intro pins s σ H x y v u Q I rx ry h
  obtain ⟨a, dx, fs, c, dy, gs, rfl, rfl, ha, hc', h⟩ := h
  cases rx
  cases ry
  obtain ⟨mA, J, _⟩ := ins_get I.hok ha
  obtain ⟨mB, J', _⟩ := ins_get I.hok hc'
  obtain ⟨od, J, _⟩ := J.look
  obtain ⟨od', J', _⟩ := J'.look
  obtain ⟨m, hF⟩ := I.fr
  show wpAny (model X.prog X.w) X.A (richCompare .NotEq (.ref a) (.ref c)) _ _ s
  refine ne_K (tb := .ref C) (by have := hr.units; omega) hF I.ok.mod.kin J J'.type (by simp [PySem.W.notFirst]) n hm.at_ hm.fn ?_
  refine wpAny_mono (run_at (A := X.A.in1) F (hr.mono hk).in1 rfl b hx I (us := [.ref a, .ref c]) (vs := [.ref a, .ref c]) (.cons rfl (.cons rfl .nil)) h) (fun r s' q => ?_) fun _ _ z => z
  obtain ⟨z, H', I', rz, b', rfl, q⟩ := q
  cases rz
  exact ⟨_, rfl, .bl (!b'), H', I', rfl, q⟩
/-- bool(o) by an own __bool__ -/
theorem call_bool_own {prog : Program} {w : World} {A : Around} {E : Value → Shared → Prop} {s : Shared} {x : Addr} {Q : Value → Shared → Prop} (h : wpAny (model prog w) A.in1.in1 (truthy (.ref x)) (fun b s' => Q (.bool b) s') E s) :
    wpAny (model prog w) A (call (.type "bool") [.ref x]) Q E s := by
  have ft := F.called_bool
  have hct := F.typeCall_bool_1 (.ref x)
  obtain ⟨c, tl, hmro⟩ := ft.mro
  have hmade := ft.made
  have hsub := ft.sub
  refine wpAny_call (codeAny_of_tree ?_)
  show wpAny _ _ (callAny (.type "bool") _) _ _ _
  refine wpAny_pure ⟨Code.quiet_builtin _ (by decide +kernel), codeAny_builtin F.entry_type_call ?_⟩
  rw [Around.under_plain (weight_type_call_type "bool" [.ref x] []) (units_type_call_type "bool" [.ref x] [])]
  have h1 := ft.notType
  have h2 := ft.canCreate
  repeat (any_goals (first | assumption | wp_step))

  refine codeAny_mono (codeAny_call_builtin (R := wants (fun obj s₁ => ∃ b, obj = .bool b ∧ Q (.bool b) s₁) E) ft.plain F.entry_bool_new (wpAny_of_eq (F.newCall_bool_1 _) ?_)) fun r s₁ hr => ?_
  · unfold Builtin.«bool.__new__»
    have f1 := F.conv_sub_bool
    repeat (any_goals (first | assumption | (with_reducible refine wpAny_bind (m := truthy (.ref x)) (wpAny_mono h (fun b s' hq => ?_) fun _ _ e => e)) | wp_step))
    all_goals exact ⟨_, rfl, hq⟩
  cases r with
  | error e => exact hr
  | ok fl =>
    cases fl with
    | ret obj =>
      obtain ⟨bb, rfl, hr⟩ := hr
      have hT : s₁.TypeIs (.bool bb) "bool" := rfl
      have hli := ft.init.lookup
      have hbi := ft.init.bind (.bool bb)
      repeat (any_goals (first | assumption | wp_step))

      refine codeAny_mono (codeAny_call_builtin ft.init.plain F.entry_object_init (ft.init.check _ _ _ _ _ _ _ _ hT (F.args_object_init_2 _ _) (object_init_meets (self := .bool bb) (rest := [.ref x]) ft.init.lookup ft.made F.newNe_bool prog w A.in1 (wants (fun r s₂ => r = .none ∧ Q (.bool bb) s₂) E) s₁ ⟨hT, rfl, hr⟩))) fun r₂ s₂ hr₂ => ?_
      cases r₂ with
      | error e => exact hr₂
      | ok fl₂ =>
        cases fl₂ with
        | ret r =>
          obtain ⟨rfl, hq⟩ := hr₂
          repeat (any_goals (first | assumption | wp_step))
        | _ => exact hr₂.elim
    | _ => exact hr.elim
theorem cr_boolO (c : Met X.prog X.w X.K X.mg X.base k C "__bool__" sp []) {j : Nat} (hr : Room j X.A) (hk : k + 2 ≤ j) (hx : Passes (L2.CX X.prog X.w) X E) :
    CallR X (.type "bool") (fun xs H Q => ∃ a dx fs, xs = [.ref a] ∧ H a = some (.ins C dx fs) ∧ sp [.ref a] H (fun v H' => ∃ b, v = .bl b ∧ Q (.bl b) H') E) := by
  obtain ⟨f, fd, ps, ds, hc, hm, F, b, d⟩ := c.ex
  cases d
  intro pins s σ H xs us Q I r h
  obtain ⟨a, dx, fs, rfl, ha, h⟩ := h
  rw [Vals.ref1 r]
  obtain ⟨mA, J, _⟩ := ins_get I.hok ha
  obtain ⟨od, J, _⟩ := J.look
  obtain ⟨m, hF⟩ := I.fr
  refine call_bool_own (PySem.W.truthy_K hF I.ok.mod.kin J hm.at_ hm.fn ?_)
  refine wpAny_mono (run_at (A := X.A.in1.in1) F (hr.mono hk).in1.in1 rfl b hx I (us := [.ref a]) (vs := [.ref a]) (.cons rfl .nil) h) (fun r s' q => ?_) fun _ _ z => z
  obtain ⟨z, H', I', rz, b', rfl, q⟩ := q
  cases rz
  exact ⟨.bl b', H', I', rfl, q⟩
end
end Tr

/-! # set(a list of ints), turned from the tuple's. -/
namespace Tr
open PySem PySem.Spec PyProof.Rows L2
section
variable {P : Program} {w : World} {A : Around} {E : Value → Shared → Prop} {s : Shared}
theorem call_set_listI {l : Addr} {items : Array Value} (ns : List Int) {Q : Value → Shared → Prop} (hh : A.handled = none) (hl : s.heap.IsList l items) (hit : IntsAre items.toList ns) (hb : ns.length + 1 < scanBound)
    (h : ∀ (h' : Heap) (tk c : Nat), SetR w h' s.heap.objs.size (fun j => decide (j ∈ ns)) c → c ≤ ns.length → (∀ b o, s.heap.get? b = some o → h'.get? b = some o) → Q (.ref s.heap.objs.size) { s with heap := h', toks := tk }) :
    wpAny (model P w) A (call (.type "set") [.ref l]) Q E s := by
  have hisz : items.size = ns.length := by
    have q := IntsAre.length hit
    rw [Array.length_toList] at q
    exact q
  obtain ⟨c, tl, hmro⟩ := F.called_set.mro
  have hmade := F.called_set.made
  have hsub := F.called_set.sub
  refine wpAny_call (codeAny_of_tree ?_)
  show wpAny _ _ (callAny (.type "set") _) _ _ _
  refine wpAny_pure ⟨Code.quiet_builtin _ (by decide +kernel), codeAny_builtin F.entry_type_call ?_⟩
  rw [Around.under_plain (weight_type_call_type "set" [.ref l] []) rfl]
  have h1 := F.called_set.notType
  have h2 := F.called_set.canCreate
  have hct := F.typeCall_set_1 (.ref l)
  repeat (any_goals (first | assumption | wp_step))

  refine codeAny_mono (code_set_led1 (.ref l) (E := E) (Q₁ := fun obj s₁ => obj = .ref s.heap.objs.size ∧ s₁ = { s with heap := s.heap.push { cls := .type "set", dict := none, data := .set #[] 0 (.fresh 0 0 (!w.params.followText "set-order")) } }) ⟨rfl, rfl⟩) fun r s₁ hr => ?_
  cases r with
  | error e => exact hr
  | ok fl =>
    cases fl with
    | ret obj =>
      obtain ⟨rfl, rfl⟩ := hr
      have hS : (s.heap.push { cls := .type "set", dict := none, data := .set #[] 0 (.fresh 0 0 (!w.params.followText "set-order")) }).get? s.heap.objs.size = some { cls := .type "set", dict := none, data := .set #[] 0 (.fresh 0 0 (!w.params.followText "set-order")) } := Heap.get?_push_size _ rfl
      have hT : Shared.TypeIs { s with heap := s.heap.push { cls := .type "set", dict := none, data := .set #[] 0 (.fresh 0 0 (!w.params.followText "set-order")) } } (.ref s.heap.objs.size) "set" := ⟨_, hS, rfl⟩
      have hli := F.called_set.init.lookup
      have hbi := F.called_set.init.bind (.ref s.heap.objs.size)
      repeat (any_goals (first | assumption | wp_step))

      refine codeAny_mono (codeAny_call_builtin (R := wants (fun r s₂ => r = .none ∧ ∃ h' tk c, s₂ = { s with heap := h', toks := tk } ∧ SetR w h' s.heap.objs.size (fun j => decide (j ∈ ns)) c ∧ c ≤ ns.length ∧
          (∀ b o, s.heap.get? b = some o → h'.get? b = some o)) E) F.called_set.init.plain F.entry_set_init (check_set_init_1 hT ?_)) fun r₂ s₂ hr₂ => ?_
      · obtain ⟨ol, hol, hcl, nl, hdl⟩ := hl
        obtain ⟨ocls, odict, odata, oslots⟩ := ol
        simp only at hcl hdl
        subst hcl; subst hdl
        have hol' : (s.heap.push { cls := .type "set", dict := none, data := .set #[] 0 (.fresh 0 0 (!w.params.followText "set-order")) }).get? l = some { cls := .type "list", dict := odict, data := .seq items nl, slots := oslots } := Heap.get?_push_of_some _ hol
        have hsls := F.sub_list_set
        have hslf := F.sub_list_frozenset
        have hne : (Value.type "list" == Value.type "dict") = false := by decide
        have hl1 : (s.heap.push { cls := .type "set", dict := none, data := .set #[] 0 (.fresh 0 0 (!w.params.followText "set-order")) }).IsList l items := ⟨_, hol', rfl, nl, rfl⟩
        unfold Builtin.«set.__init__» noKeywords Builtin.Frozenset.updateFrom
        generalize hPI : pyIter = PI
        wp_walk
        subst hPI

        refine wpAny_pyIter_list hl1 ?_
        refine wpAny_bind (wpAny_runValue ?_)
        have hlS : l < s.heap.objs.size := Heap.lt_size hol
        have hh3 : A.in1.in1.in1.handled = none := by simp [hh]
        have hz1 : (s.heap.push { cls := .type "set", dict := none, data := .set #[] 0 (.fresh 0 0 (!w.params.followText "set-order")) }).objs.size = s.heap.objs.size + 1 := Heap.size_push ..
        have hneI : l ≠ (s.heap.push { cls := .type "set", dict := none, data := .set #[] 0 (.fresh 0 0 (!w.params.followText "set-order")) }).objs.size := by
          rw [Heap.size_push]; exact Nat.ne_of_lt (Nat.lt_succ_of_lt hlS)
        have hSf : s.heap.objs.size ∉ [(s.heap.push { cls := .type "set", dict := none, data := .set #[] 0 (.fresh 0 0 (!w.params.followText "set-order")) }).objs.size, l] := by
          rw [Heap.size_push]; simp only [List.mem_cons, List.mem_singleton, List.not_mem_nil, or_false, not_or]
          exact ⟨Nat.ne_of_lt (Nat.lt_succ_self _), Nat.ne_of_gt hlS⟩
        have hval : ∀ (i : Nat) (v : Value), items[i]? = some v → ∃ k t, ns[i]? = some k ∧ v = .int k t := fun i v hv => by
          have hi : i < ns.length := by rw [← hisz]; exact (Array.getElem?_eq_some_iff.mp hv).1
          obtain ⟨t, e⟩ := PyProof.Rows.IntsAre.int_at hit i v (by rw [Array.getElem?_toList]; exact hv)
          refine ⟨ns[i], t, List.getElem?_eq_getElem hi, ?_⟩
          rw [e, List.getD_eq_getElem?_getD, List.getElem?_eq_getElem hi] <;> rfl
        refine set_update_ints ((Walks.list hh3 _ l hneI items).toS) s.heap.objs.size
          hSf ns hisz hb hval (items.size - 0) 0 _ (by omega) (Nat.zero_le _)
          ⟨⟨_, Heap.get?_push_size _ rfl, rfl, rfl⟩, (hl1.push _)⟩ ?hS0 ?hR
        case hS0 =>
          have hget : ((s.heap.push { cls := .type "set", dict := none, data := .set #[] 0 (.fresh 0 0 (!w.params.followText "set-order")) }).push { cls := .type "list_iterator", data := .fields #[.ref l, .int 0 0] }).get? s.heap.objs.size
              = some { cls := .type "set", dict := none, data := .set #[] 0 (.fresh 0 0 (!w.params.followText "set-order")) } := Heap.get?_push_of_some _ hS
          exact ⟨0, Nat.le_refl 0, setR_new_at hget⟩
        case hR =>
          intro s' c' hm hc' hS'
          obtain ⟨h', g2, d', tk', os'⟩ := s'
          have eg : g2 = s.gens := hm.gens
          have ed : d' = s.drawn := hm.drawn
          have eo : os' = s.os := hm.os
          subst eg; subst ed; subst eo
          show wpAny _ _ _ _ _ _
          refine wpAny_pure ?_
          show wpAny _ _ (ret Value.none) _ _ _
          rw [hisz] at hc'
          refine wpAny_pure ⟨rfl, h', tk', c', rfl, hS', hc', fun b o e => ?_⟩
          have hb0 : b < s.heap.objs.size := Heap.lt_size e
          have hb1 : b ≠ s.heap.objs.size := Nat.ne_of_lt hb0
          have hb2 : b ≠ (s.heap.push { cls := .type "set", dict := none, data := .set #[] 0 (.fresh 0 0 (!w.params.followText "set-order")) }).objs.size := by
            rw [Heap.size_push]; exact Nat.ne_of_lt (Nat.lt_succ_of_lt hb0)
          exact hm.heap b o (by simp only [List.mem_cons, List.mem_singleton, List.not_mem_nil, or_false, not_or]; exact ⟨hb1, hb2⟩) (Heap.get?_push_of_some _ (Heap.get?_push_of_some _ e))

      · cases r₂ with
        | error e => exact hr₂
        | ok fl₂ =>
          cases fl₂ with
          | ret r =>
            obtain ⟨rfl, h', tk, c', rfl, hS', hc', hk'⟩ := hr₂
            repeat (any_goals (first | assumption | wp_step))
            exact h _ _ _ hS' hc' hk'
          | _ => exact hr₂.elim
    | _ => exact hr.elim
end
def rSetI (K : PySem.W.Frag) (w : World) : List V → Hp → VK → Prop := fun vs H Q => ∃ (p : Addr) (ns : List Int), vs = [V.ref p] ∧ SqL K H p (ns.map V.int) ∧ ns.length ≤ 1000 ∧ ∀ (a : Addr) (c : Nat), c ≤ ns.length → H a = none → Q (.ref a) (upd H a (SetO w a (fun j => decide (j ∈ ns)) c))
theorem cr_setI {X : Cx} (hc : X.calm = true) : CallR X (.type "set") (rSetI X.K X.w) := by
  intro pins s σ H vs us Q I r h
  obtain ⟨p, ns, rfl, hp, hl, q⟩ := h
  rw [Vals.ref1 r]
  obtain ⟨its, rv, pl, hz⟩ := I.list hp
  have hi : IntsAre its.toArray.toList ns := ints_of_vals rv
  refine call_set_listI ns (I.ok.hd hc) pl.isList hi (by unfold scanBound; omega) fun h' tk c R hcl kp => ?_
  exact ⟨.ref _, upd H s.heap.objs.size (SetO X.w s.heap.objs.size (fun j => decide (j ∈ ns)) c), I.laid (t' := tk) kp (Nat.le_refl _) (setO_new R), rfl, q _ c hcl (I.hok.fresh (Nat.le_refl _))⟩
end Tr

/-! # enumerate, isinstance of own things, fields. -/
namespace Tr
open PySem L2
section
variable {K : PySem.W.Frag}
/-- for i, x in enumerate(list) -/
theorem for_enum {a : Addr} {xs : List V} {i1 i2 : Nat} {tb : TS} {D : Ends} {σ : St} {H : Hp} (Pv : Nat → St → Hp → Prop) (h0 : Pv 0 σ H) (hl : ∀ i σ H, i ≤ xs.length → Pv i σ H → SqL K H a xs)
    (hs : ∀ i x σ H, xs[i]? = some x → Pv i σ H → ∀ T, H T = none → tb { D with nx := Pv (i + 1), ct := Pv (i + 1), bk := D.nx } ((σ.set i1 (some (.int (i : Nat)))).set i2 (some x)) (upd H T (.tup [.int (i : Nat), x]))) (hd : ∀ σ H, Pv xs.length σ H → D.nx σ H) :
    ∃ W : Nat → Nat → St → Hp → Prop, (∃ m, W 0 m σ H) ∧ ∀ i m σ H, W i m σ H →
      ((Ite K a).stop i H ∧ D.nx σ H) ∨ ((Ite K a).go i H ∧ ∃ N : St → Hp → Prop, (∀ σ' H', N σ' H' → ∃ m', m' < m ∧ W (i + 1) m' σ' H') ∧ ∀ x H', (Ite K a).yld i H x H' → gTup K 2 (gCons (gName i1) (gCons (gName i2) gNil)) x σ H' fun σ2 H2 => tb { D with nx := N, ct := N, bk := D.nx } σ2 H2) := by
  refine ⟨fun i m σ H => m = xs.length - i ∧ i ≤ xs.length ∧ Pv i σ H, ⟨xs.length, by simp, Nat.zero_le _, h0⟩, ?_⟩
  rintro i m σ H ⟨rfl, hi, p⟩
  have q := hl i σ H hi p
  by_cases hlt : i < xs.length
  · refine .inr ⟨⟨xs, xs[i], q, by simp [hlt]⟩, Pv (i + 1), fun σ' H' p' => ⟨xs.length - (i + 1), by omega, rfl, hlt, p'⟩, fun x H' y => ?_⟩
    obtain ⟨T, z, rfl, nT, rfl, y⟩ := y
    exact ⟨T, _, rfl, SqT.of upd_same, rfl, _, _, rfl, _, _, rfl, rfl, hs i z σ H (y xs q) p T nT⟩
  · have e : i = xs.length := by omega
    subst e
    exact .inl ⟨⟨xs, q, Nat.le_refl _⟩, hd σ H p⟩
end
/-- e.f, K by its name (inside a comprehension X.K would hold what is bound there) -/
theorem pe_fldK {X : Cx} (K : PySem.W.Frag) {e : Expr} {ta : TE} {f : Str} {pos : Pos} (he : PE X e ta) (hb : attributeBase e f X.env (eval e X.env) = eval e X.env) (hk : X.K = K := by rfl) : PE X (.Attribute e f pos) (tFld K ta f) := by
  subst hk
  exact pe_fld he hb
theorem pi_listK {X : Cx} (K : PySem.W.Frag) {tg l : Expr} {tl : TE} (hl : PE X l tl) (hk : X.K = K := by rfl) : PI X tg l (iList K tl) := by
  subst hk
  exact pi_list hl
/-- a walk over a list, whatever is done at each turn -/
theorem it_list {K : PySem.W.Frag} {a : Addr} {xs : List V} {Hs : Hp} {Qd : Hp → Prop} {F : V → Hp → (Hp → Prop) → Prop} (Pv : Nat → Hp → Prop) (h0 : Pv 0 Hs) (hl : ∀ i H, i ≤ xs.length → Pv i H → SqL K H a xs)
    (hs : ∀ i x H, xs[i]? = some x → Pv i H → F x H (Pv (i + 1))) (hd : ∀ H, Pv xs.length H → Qd H) :
    ∃ W : Nat → Nat → Hp → Prop, (∃ m, W 0 m Hs) ∧ ∀ i m H, W i m H → ((Itl K a).stop i H ∧ Qd H) ∨ ((Itl K a).go i H ∧ ∃ Nx : Hp → Prop, (∀ H', Nx H' → ∃ m', m' < m ∧ W (i + 1) m' H') ∧ ∀ x H', (Itl K a).yld i H x H' → F x H' Nx) := by
  refine ⟨fun i m H => m = xs.length - i ∧ i ≤ xs.length ∧ Pv i H, ⟨xs.length, by simp, Nat.zero_le _, h0⟩, ?_⟩
  rintro i m H ⟨rfl, hi, p⟩
  have q := hl i H hi p
  by_cases hlt : i < xs.length
  · refine .inr ⟨⟨xs, xs[i], q, by simp [hlt]⟩, Pv (i + 1), fun H' p' => ⟨xs.length - (i + 1), by omega, rfl, hlt, p'⟩, fun x H' y => ?_⟩
    obtain ⟨e, y⟩ := y
    subst e
    exact hs i x _ (y xs q) p
  · have e : i = xs.length := by omega
    subst e
    exact .inl ⟨⟨xs, q, Nat.le_refl _⟩, hd H p⟩
/-- another reading of the same -/
theorem pe_imp {X : Cx} {e : Expr} {t t' : TE} (h : PE X e t) (f : ∀ σ H Q, t' σ H Q → t σ H Q) : PE X e t' := ⟨fun pins s σ H Q I q => h.run pins s σ H Q I (f σ H Q q)⟩
/-- what isinstance of an instance of the class leans on -/
structure IsO (K : PySem.W.Frag) (C : Addr) : Prop where
  ha : PySem.W.findIn K (.ref C) "__class__" = some (some (.builtin "object.__class__"))
  hn : PySem.W.specialIn K (.builtin "object.__class__") "__get__" = some (some (.builtin "getset_descriptor.__get__"))
  ht : PySem.W.takesIn K (.builtin "object.__class__") = some true
  hm : PySem.W.mroIn K C (.type "object") = some true
theorem IsO.ty {K : PySem.W.Frag} {C a dx : Addr} {H : Hp} {fs : List (Str × V)} (o : IsO K C) (c : Cls K C) (e : H a = some (.ins C dx fs)) : TyX K H (.ref a) (.ref C) := .base (.ins e c o.ha o.hn o.ht o.hm)
theorem kit_self {K : PySem.W.Frag} {t : Value} : PySem.W.kitOne K t t = some true := by
  unfold PySem.W.kitOne
  first
    | rfl
    | simp
/-- isinstance(x, int) and not isinstance(x, bool) -/
structure IsW (K : PySem.W.Frag) (H : Hp) (x : V) (b : Bool) : Prop where
  ex : ∃ t b1 b2, TyX K H x t ∧ PySem.W.kitOne K t (.type "int") = some b1 ∧ PySem.W.kitOne K t (.type "bool") = some b2 ∧ b = (b1 && !b2)
theorem isW_int {K : PySem.W.Frag} {H : Hp} (i : Int) : IsW K H (.int i) true := ⟨_, true, false, .base (.int i), kit_ty (by decide +kernel), kit_ty (by decide +kernel), rfl⟩
end Tr

/-! # Static methods, own binary operators, own truth, two ways to iterate. -/
namespace Tr
open PySem PySem.Spec PyProof.Rows L2
/-- C.m is a static method: its record at p, its def at g -/
structure SMet (K : PySem.W.Frag) (C : Addr) (m : Str) (p g : Addr) : Prop where
  rd : PySem.W.readsIn K C (.type "type") = true
  ga : PySem.W.specialIn K (.ref C) "__getattribute__" = some (some (.builtin "type.__getattribute__"))
  at_ : PySem.W.findCls K (.ref C) (.type "type") m = some (.get (.builtin "staticmethod.__get__") (.ref p) .none (.ref C))
  rc : ∃ rest, PySem.W.recIn K p "staticmethod" = some (.ref g :: rest)
  kp : PySem.W.keepIn K (.ref g) = true
structure Smt (K : PySem.W.Frag) (C : Addr) (m qual : Str) (st : Stmt) : Prop where
  ex : ∃ p g fd, SMet K C m p g ∧ Fun K m qual st g fd
/-- a static method that may be called -/
structure Sta (P : Program) (w : World) (K : PySem.W.Frag) (mg : Str → Option Value) (base : Heap) (k : Nat) (C : Addr) (m : Str) (sp : Sp) : Prop where
  ex : ∃ (p g : Addr) (fd : FuncData) (ps : List Str), SMet K C m p g ∧ FnOk P w K mg base (L2.CX P w) k g fd ps sp ∧ Binds K fd ps []
section
variable {P : Program} {w : World} {K : PySem.W.Frag} {mg : Str → Option Value} {base : Heap}
theorem staN {m qual : Str} {C : Addr} {st : Stmt} {N ps : List Str} {k : Nat} {sp : Sp} (D : Smt K C m qual st) (S : FnScope N ps (defScope st)) (len : ∀ vs H Q E, sp vs H Q E → vs.length = ps.length)
    (hb : ∀ (kV doc pm : Value) (an : Option Addr) (cdv ct : Value) (us : List Value), us.length = ps.length → bindArgs (PySem.W.fnOf m qual (defArgs st) (defBody st) (defScope st) .none kV doc pm an cdv ct) ⟨us, []⟩ = pure (ps.zip us))
    (hbody : ∀ (f : Addr) (cdv : Value) (A : Around) (outer : List Env) (s : Shared) (H : Hp) (vs : List V) (Q : VK) (E : XK), Room k (A.deeper (envOfC qual (defScope st) s.heap.objs.size f cdv)) → sp vs H Q E →
      ∃ t, PSs (cxOf (L2.CX P w) P w K mg base N qual (defScope st) f cdv A outer s H E).nox (defBody st) t ∧ t { nx := fun _ H' => Q .non H', rt := Q } (start N vs) H) : Sta P w K mg base (k + 1) C m sp :=
  let ⟨p, g, fd, M, F⟩ := D.ex
  ⟨p, g, fd, ps, M, okN F S len (hbody g), F.binds hb⟩
end
section
variable {X : Cx} {k j : Nat} {C : Addr} {m : Str} {sp : Sp} {p pos apos : Pos} {e o : Expr} {es : List Expr} {ta : TE} {t : TA} {E : XK}
theorem getsm_ok {pins : List (Addr × Obj)} {σ : L2.St} {H : Hp} {s : Shared} {A : Around} {E' : Value → Shared → Prop} {p g : Addr} {pl : Sem Bool} {Q : Value × List Value → Shared → Prop} (I : Inv X pins σ H s) (c : SMet X.K C m p g)
    (h : ∀ s', Inv X pins σ H s' → Q (.ref g, []) s') : wpAny (model X.prog X.w) A (getMethod (.ref C) m pl) Q E' s := by
  obtain ⟨rest, hp⟩ := c.rc
  exact PySem.W.method_cls I.kIn c.ga (PySem.W.cls_bind I.kIn c.rd c.at_ (wpAny_call (PySem.W.sm_get (s := { s with toks := s.toks + 1 }) I.kIn hp (PySem.W.handed_on rfl (h _ (I.tok _))))))
/-- C.m(e, ..) of a static method -/
def tSta (C : Addr) (sp : Sp) (E : XK) (ta : TE) (t : TA) : TE := fun σ H Q => ta σ H fun x H1 => x = .ref C ∧ t σ H1 fun vs H2 => sp vs H2 Q E
theorem pe_sta {pl : Sem Bool} (c : Sta X.prog X.w X.K X.mg X.base k C m sp) (hr : Room j X.A) (hk : k ≤ j) (hx : Passes (L2.CX X.prog X.w) X E) (he : PE X o ta) (ha : PA X (e :: es) t)
    (hst : starEach (e :: es) X.env = (false, eval e X.env) :: starEach es X.env := by rfl) (hpl : (backTo pos (starEach es X.env)).any (·.1) = false := by rfl)
    (ht : eval (.Call (.Attribute o m apos) (e :: es) [] pos) X.env = (do
      let ov ← eval o X.env
      standAt apos.atName
      let (f, first) ← holding [ov] (getMethod ov m pl)
      callWith pos f first (backTo pos (starEach (e :: es) X.env)) (backToKw pos (keywordEach [] X.env))) := by rfl) :
    PE X (.Call (.Attribute o m apos) (e :: es) [] pos) (tSta C sp E ta t) := by
  obtain ⟨p, g, fd, ps, M, F, b⟩ := c.ex
  refine ⟨fun pins s σ H Q I h => ?_⟩
  refine PySem.W.methodCall_KW (pl := pl) (thn (he.run pins s σ H _ I h) fun u s1 ⟨x, H1, I1, rx, ex, q⟩ => ?_) ht
  subst ex
  obtain rfl : u = Value.ref C := rx
  refine getsm_ok I1 M fun s2 I2 => ?_
  refine PySem.W.callWith_K (first := []) (h₀ := X.base) I.ok.mod.kin M.kp (thn (ha.run pos pins s2 σ H1 _ I2 q) fun us s3 ⟨vs, H2, I3, r, q2⟩ => ⟨I3.kIn, ?_⟩) hst hpl
  exact run_fn F (hr.mono hk) b .nil hx I3 r (by rw [List.append_nil]; exact q2)
theorem pe_sta0 {pl : Sem Bool} (c : Sta X.prog X.w X.K X.mg X.base k C m sp) (hr : Room j X.A) (hk : k ≤ j) (hx : Passes (L2.CX X.prog X.w) X E) (he : PE X o ta)
    (ht : eval (.Call (.Attribute o m apos) [] [] pos) X.env = (do
      let ov ← eval o X.env
      standAt apos.atName
      let (f, first) ← holding [ov] (getMethod ov m pl)
      callWith pos f first (backTo pos (starEach [] X.env)) (backToKw pos (keywordEach [] X.env))) := by rfl) :
    PE X (.Call (.Attribute o m apos) [] [] pos) (tSta C sp E ta tNil) := by
  obtain ⟨p, g, fd, ps, M, F, b⟩ := c.ex
  refine ⟨fun pins s σ H Q I h => ?_⟩
  refine PySem.W.methodCall_KW (pl := pl) (thn (he.run pins s σ H _ I h) fun u s1 ⟨x, H1, I1, rx, ex, q⟩ => ?_) ht
  subst ex
  obtain rfl : u = Value.ref C := rx
  refine getsm_ok I1 M fun s2 I2 => ?_
  exact PySem.W.callWith_K0 (first := []) I2.kIn M.kp (run_fn (us := []) (vs := []) F (hr.mono hk) b .nil hx I2 .nil q)
/-- a binary operator of two instances of one class -/
def rBinO (C : Addr) (sp : Sp) (E : XK) : R2 := fun x y H Q => ∃ a dx fs b dy gs, x = .ref a ∧ y = .ref b ∧ H a = some (.ins C dx fs) ∧ H b = some (.ins C dy gs) ∧ sp [x, y] H (fun v H' => ∃ z, v = .ref z ∧ Q (.ref z) H') E
theorem or_binO {op : Operator} (c : Met X.prog X.w X.K X.mg X.base k C m sp []) (hm : PySem.dunder op.info.2 = m) (hs : PySem.W.selfFirst X.K C = true) (hr : Room j X.A) (hk : k ≤ j) (hx : Passes (L2.CX X.prog X.w) X E) : OpR X (binaryOp op) (rBinO C sp E) := by
  subst hm
  obtain ⟨f, fd, ps, ds, hc, hm, F, b, d⟩ := c.ex
  cases d
  intro pins s σ H x y v u Q I rx ry h
  obtain ⟨a, dx, fs, c, dy, gs, rfl, rfl, ha, hc', h⟩ := h
  cases rx
  cases ry
  obtain ⟨mA, J, _⟩ := ins_get I.hok ha
  obtain ⟨mB, J', _⟩ := ins_get I.hok hc'
  obtain ⟨od, J, _⟩ := J.look
  obtain ⟨od', J', _⟩ := J'.look
  obtain ⟨m, hF⟩ := I.fr
  refine PySem.W.binop_K hF I.ok.mod.kin J J'.type hs hm.at_ hm.fn ?_
  refine wpAny_mono (run_at F (hr.mono hk) rfl b hx I (us := [.ref a, .ref c]) (vs := [.ref a, .ref c]) (.cons rfl (.cons rfl .nil)) h) (fun r s' q => ?_) fun _ _ z => z
  obtain ⟨z, H', I', rz, b', rfl, q⟩ := q
  cases rz
  exact ⟨.ref b', H', I', rfl, q⟩
/-- the truth of an instance -/
theorem pt_truO {C : Addr} {sp : Sp} (c : Met X.prog X.w X.K X.mg X.base k C "__bool__" sp []) (hr : Room j X.A) (hk : k ≤ j) (hx : Passes (L2.CX X.prog X.w) X E) (ha : PE X e ta) (he : ∀ whole, isTrue e X.env whole = (do let v ← whole; standAt e.pos; holding [v] (truthy v))) :
    PT X e (fun σ H Q => ta σ H fun x H1 => ∃ a dx fs, x = .ref a ∧ H1 a = some (.ins C dx fs) ∧ sp [.ref a] H1 (fun v H2 => ∃ b, v = .bl b ∧ Q b H2) E) := by
  obtain ⟨f, fd, ps, ds, hc, hm, F, b, d⟩ := c.ex
  cases d
  refine ⟨fun pins s σ H Q I h => ?_⟩
  refine isTrue_plain (thn (ha.run pins s σ H _ I h) fun v s1 ⟨x, H1, I1, r1, a, dx, fs, ex, ea, q1⟩ => ?_) (he _)
  subst ex
  cases r1
  obtain ⟨mA, J, _⟩ := ins_get I1.hok ea
  obtain ⟨od, J, _⟩ := J.look
  obtain ⟨m, hF⟩ := I1.fr
  refine PySem.W.truthy_K hF I1.ok.mod.kin J hm.at_ hm.fn ?_
  refine wpAny_mono (run_at F (hr.mono hk) rfl b hx I1 (us := [.ref a]) (vs := [.ref a]) (.cons rfl .nil) q1) (fun r s' q => ?_) fun _ _ z => z
  obtain ⟨z, H', I', rz, b', rfl, q⟩ := q
  cases rz
  exact ⟨H', I', q⟩
theorem pi_or {tg e : Expr} {w1 w2 : TI} (h1 : PI X tg e w1) (h2 : PI X tg e w2) : PI X tg e (fun σ H R => w1 σ H R ∨ w2 σ H R) := ⟨fun pins s σ H R I h => h.elim (h1.run pins s σ H R I) (h2.run pins s σ H R I)⟩
end
end Tr

/-! # Small words. -/
namespace Tr
open PySem L2
theorem iteNe {x y : V} {A B : Prop} (h : x = y) (b : B) : if (!decide (x = y)) = true then A else B := by
  rw [if_neg (by rw [decide_eq_true h]; exact Bool.false_ne_true)]
  exact b
theorem iteEq {x y : V} {A B : Prop} (h : x = y) (b : A) : if decide (x = y) = true then A else B := by
  rw [if_pos (decide_eq_true h)]
  exact b
theorem iteOr {b1 b2 : Bool} {σ : St} {j : Nat} {H : Hp} {Q : VK} (e : σ[j]? = some (some (.bl b2))) (h : Q (.bl (b1 || b2)) H) : if b1 = true then Q (.bl true) H else tVar j σ H Q := by
  cases b1
  · rw [if_neg Bool.false_ne_true]
    exact ⟨_, e, h⟩
  · rw [if_pos rfl]
    exact h
theorem iteAnd {b1 b2 : Bool} {σ : St} {j : Nat} {H : Hp} {Q : VK} (e : σ[j]? = some (some (.bl b2))) (h : Q (.bl (b1 && b2)) H) : if b1 = true then tVar j σ H Q else Q (.bl false) H := by
  cases b1
  · rw [if_neg Bool.false_ne_true]
    exact h
  · rw [if_pos rfl]
    exact ⟨_, e, h⟩
end Tr

/-! # enumerate over a tuple; loops and comprehensions over a tuple of pairs. -/
namespace Tr
open PySem PySem.Spec PyProof.Rows L2
abbrev enumO (it : Addr) : Obj := { cls := .type "enumerate", data := .fields #[.none, .bool false, .ref it, rawInt 0, .none, .none] }
theorem meets_enum1 {v : Value} {o : Obj} {W : Heap → Prop} (B : Begins v o W) :
    Meets (Builtin.«enumerate.__new__» ⟨[.type "enumerate", v], []⟩) (fun _ R s => W s.heap ∧ R (.ok (.ret (.ref (s.heap.push o).objs.size))) { s with heap := (s.heap.push o).push (enumO s.heap.objs.size) }) := .of_wp fun prog w A R s h => by
  obtain ⟨hp, g, d, tk, os⟩ := s
  obtain ⟨h1, h⟩ := h
  have hsub := sub_enumerate
  have q1 : ∀ {A' : Around} {E : Value → Shared → Prop} {Q : Value → Shared → Prop}, Q (.ref hp.objs.size) ⟨hp.push o, g, d, tk, os⟩ → wpAny (model prog w) A' (pyIter v) Q E ⟨hp, g, d, tk, os⟩ := fun q => B.iter prog w _ _ ⟨hp, g, d, tk, os⟩ _ h1 q
  wp_walk using q1
  refine wpAny_stack_any fun st => wpAny_pure ?_
  split
  · rename_i c _ _ _ _ _
    cases (c == Value.type "enumerate") <;> (wp_walk using q1; exact ⟨_, rfl, h⟩)
  · wp_walk using q1
    exact ⟨_, rfl, h⟩
section
variable {prog : Program} {w : World} {A : Around} {E : Value → Shared → Prop} {s : Shared}
theorem call_enum1 {v : Value} {o : Obj} {W : Heap → Prop} {Q : Value → Shared → Prop} (B : Begins v o W) (h1 : W s.heap)
    (h : ∀ h', IsEnum h' (s.heap.objs.size + 1) s.heap.objs.size 0 .none → h'.get? s.heap.objs.size = some o → (∀ b o, s.heap.get? b = some o → h'.get? b = some o) → Q (.ref (s.heap.objs.size + 1)) { s with heap := h' }) :
    wpAny (model prog w) A (call (.type "enumerate") [v]) Q E s := by
  refine callType_new F.called_enumerate (by decide) (F.typeCall_enumerate_1 _) (F.newCall_enumerate_1 _) (fun obj => F.args_object_init_2 obj _) F.entry_enumerate_new (meets_enum1 B) ⟨h1, ?_⟩
  have hz : (s.heap.push o).objs.size = s.heap.objs.size + 1 := Heap.size_push ..
  show _ ∧ _
  rw [hz]
  have he : IsEnum ((s.heap.push o).push (enumO s.heap.objs.size)) (s.heap.objs.size + 1) s.heap.objs.size 0 .none := by
    have := Heap.get?_push_size (s.heap.push o) (o := enumO s.heap.objs.size) rfl
    rw [hz] at this
    exact this
  exact ⟨⟨_, he, rfl⟩, h _ he (Heap.get?_push_of_some _ (Heap.get?_push_size _ B.free)) fun b o x => Heap.get?_push_of_some _ (Heap.get?_push_of_some _ x)⟩
end
/-- the tuple at a, each item in a new pair with its index -/
def IteT (K : PySem.W.Frag) (a : Addr) : It :=
  ⟨fun i H => ∃ (xs : List V) (x : V), SqT K H a xs ∧ xs[i]? = some x, fun i H v H' => ∃ T x, v = .ref T ∧ H T = none ∧ H' = upd H T (.tup [.int (i : Nat), x]) ∧ ∀ xs, SqT K H a xs → xs[i]? = some x, fun i H => ∃ xs : List V, SqT K H a xs ∧ xs.length = i⟩
theorem turn_enumT {P : Program} {w : World} {K : PySem.W.Frag} {elts : List Expr} {kk : Nat} {tpos : Pos} (a e it : Addr) :
    Turn P w K (.Tuple elts kk tpos) (IteT K a) [e, it] e (fun i h => (∃ old, IsEnum h e it ((i : Nat) : Int) old) ∧ h.IsTupleIter it a i ∧ e ≠ it) where
  mem := by simp
  obj := fun i h st b hb => by
    obtain ⟨⟨old, he⟩, ⟨o, ho, hc, hd⟩, _⟩ := st
    rcases (show b = e ∨ b = it by simpa using hb) with z | z
    · rw [z]; exact ⟨_, he, fun v q => nomatch q⟩
    · rw [z]; exact ⟨o, ho, fun v q => by rw [hd] at q; cases q⟩
  keep := fun i h h' ⟨⟨old, he⟩, hi, hne⟩ k => ⟨⟨old, k e (by simp) _ he⟩, hi.at fun o q => k it (by simp) o q, hne⟩
  item := by
    intro X hP hw hK hc i pins s σ H E I hf st hg
    subst hP hw hK
    obtain ⟨⟨old, he⟩, hit, hne⟩ := st
    obtain ⟨xs, x, hq, hx⟩ := hg
    obtain ⟨its, rv, p, hz⟩ := I.tuple hq
    obtain ⟨u, hu, ru⟩ := rv.get hx
    have p' : s.heap.IsTuple a its.toArray := p
    have hel : e < s.heap.objs.size := Heap.lt_size he
    have hil : it < s.heap.objs.size := by obtain ⟨_, q, _⟩ := hit; exact Heap.lt_size q
    have ait : a ≠ it := by
      rintro rfl
      obtain ⟨o, q1, q2, _⟩ := hit
      obtain ⟨o', q3, q4, _⟩ := p'
      rw [q1] at q3
      cases q3
      rw [q2] at q4
      injection q4 with q4
      exact absurd q4 (by decide)
    have ae : a ≠ e := by
      rintro rfl
      obtain ⟨o', q3, q4, _⟩ := p'
      rw [he] at q3
      cases q3
      injection q4 with q4
      exact absurd q4 (by decide)
    have hh : X.A.in1.handled = none := I.ok.hd hc
    have hi : i < its.toArray.size := by
      have := (List.getElem?_eq_some_iff.mp hu).1
      simpa using this
    refine wpAny_pyNext_enum_itemC (Draws.tuple hh it a ait its.toArray) he ⟨hit, p'⟩ hi hne (by simp [hne, ae.symm]) fun x' h' tk hP ho hst hT hsz hk => ?_
    obtain ⟨hit', _⟩ := hst
    have ex : x' = u := by
      have : its[i]? = some x' := by simpa using hP
      rw [hu] at this
      exact (Option.some.inj this).symm
    subst ex
    refine ⟨_, rfl, wpAny_letOwnedTupleGo_enum (s := { s with heap := h', toks := tk + 1 }) ho fun h'' he' sb => ?_⟩
    have hT2 : h''.get? s.heap.objs.size = some { cls := .type "tuple", data := .seq #[.int i tk, x'] } := (sb.2 _ (Nat.ne_of_gt hel)).trans hT
    have new : ObjOk X.prog X.w (upd H s.heap.objs.size (.tup [.int (i : Nat), x])) h'' s.heap.objs.size (.tup [.int (i : Nat), x]) :=
      ⟨by show 2 ≤ sizeLine; decide, [.int i tk, x'], .cons ⟨_, rfl⟩ (.cons ru .nil), ⟨_, hT2, rfl, _, rfl⟩⟩
    have I1 : Inv X pins σ (upd H s.heap.objs.size (.tup [.int (i : Nat), x])) { s with heap := h'', toks := tk + 1 } :=
      I.turnedNew (ch := [e, it]) (fun b ob hb q => (sb.2 b (fun z => hb (by simp [z]))).trans (hk b ob (fun z => hb (by simp [z])) (fun z => hb (by simp [z])) q)) hf (Nat.le_refl _) new
    refine ⟨.ref s.heap.objs.size, _, I1, rfl, ⟨_, x, rfl, I.hok.fresh (Nat.le_refl _), rfl, fun ys hy => by rw [I.tuple_inj hy hq]; exact hx⟩, ⟨⟨x', ?_⟩, hit'.at fun o q => (sb.2 it (Ne.symm hne)).trans q, hne⟩, fun b hb => ?_⟩
    · have e1 : ((i + 1 : Nat) : Int) = (i : Int) + 1 := by omega
      rw [e1]
      exact he'
    · have hb' : b < s.heap.objs.size := by
        rcases (show b = e ∨ b = it by simpa using hb) with z | z
        · rw [z]; exact hel
        · rw [z]; exact hil
      rw [upd_ne (Nat.ne_of_lt hb')]
      exact (hf b hb).1
  done := by
    intro X hP hw hK hc i pins s σ H E I hf st hg
    subst hP hw hK
    obtain ⟨⟨old, he⟩, hit, hne⟩ := st
    obtain ⟨xs, hq, hx⟩ := hg
    obtain ⟨its, rv, p, hz⟩ := I.tuple hq
    obtain ⟨f0, f1, f2, f3, f4, f5⟩ := hf it (by simp)
    have p' : s.heap.IsTuple a its.toArray := p
    have ait : a ≠ it := by
      rintro rfl
      obtain ⟨o, q1, q2, _⟩ := hit
      obtain ⟨o', q3, q4, _⟩ := p'
      rw [q1] at q3
      cases q3
      rw [q2] at q4
      injection q4 with q4
      exact absurd q4 (by decide)
    have hh : X.A.in1.handled = none := I.ok.hd hc
    have hl : i = its.toArray.size := by
      have := rv.length
      simp
      omega
    subst hl
    exact wpAny_pyNext_enum_endD (Draws.tuple hh it a ait its.toArray) he ⟨hit, p'⟩ fun h' eb => ⟨rfl, I.turned (t' := s.toks) (fun b o hb q => eb b o hb q) f0 f1 f3 f4 f5⟩
  self := fun A i s Q E ⟨⟨_, he⟩, _⟩ h => wpAny_pyIter_enum he h
def iEnumT (K : PySem.W.Frag) (ta : TA) : TI := fun σ H R => ta σ H fun vs H1 => ∃ a xs, vs = [.ref a] ∧ SqT K H1 a xs ∧ R (IteT K a) H1
theorem pi_enumT {X : Cx} {e : Expr} {ta : TA} {p pos tpos : Pos} {elts : List Expr} {kk : Nat} (hg : Gl X "enumerate") (hm : X.mg "enumerate" = none) (ha : PA X [e] ta) (hs : starEach [e] X.env = [(false, eval e X.env)] := by rfl) :
    PI X (.Tuple elts kk tpos) (.Call (.Name "enumerate" p) [e] [] pos) (iEnumT X.K ta) := by
  refine ⟨fun pins s σ H R I h => ?_⟩
  refine Call_ (ld_blt I hg hm boot_enumerate (PyProof.Rows.callWith_type1 (thn (ha.run pos pins s σ H _ I h) fun us s1 ⟨vs, H1, I1, r1, q1⟩ => ?_) hs rfl))
  obtain ⟨a, xs, ex, hq, q⟩ := q1
  subst ex
  cases r1 with
  | cons r rr =>
    cases rr
    cases r
    obtain ⟨its, rv, p', hz⟩ := I1.tuple hq
    have p2 : s1.heap.IsTuple a its.toArray := p'
    refine call_enum1 (begins_tuple a its.toArray) p2 fun h' he hit hk => wpAny_pyIter_enum he ?_
    have I2 : Inv X pins σ H1 { s1 with heap := h' } := I1.kept (t' := s1.toks) hk
    refine ⟨s1.heap.objs.size + 1, [s1.heap.objs.size + 1, s1.heap.objs.size], _, _, H1, rfl, I2, turn_enumT a (s1.heap.objs.size + 1) s1.heap.objs.size, ⟨⟨.none, he⟩, ⟨_, hit, rfl, rfl⟩, Nat.succ_ne_self _⟩, fun b hb => ?_, q⟩
    have hle : s1.heap.objs.size ≤ b := by
      rcases (show b = s1.heap.objs.size + 1 ∨ b = s1.heap.objs.size by simpa using hb) with z | z
      · rw [z]; exact Nat.le_add_right _ _
      · rw [z]; exact Nat.le_refl _
    exact I1.fpOk hle (I1.hok.fresh hle)
/-- for i, x in enumerate(tuple) -/
theorem for_enumT {K : PySem.W.Frag} {a : Addr} {xs : List V} {i1 i2 : Nat} {tb : TS} {D : Ends} {σ : L2.St} {H : Hp} (Pv : Nat → L2.St → Hp → Prop) (h0 : Pv 0 σ H) (hl : ∀ i σ H, i ≤ xs.length → Pv i σ H → SqT K H a xs)
    (hs : ∀ i x σ H, xs[i]? = some x → Pv i σ H → ∀ T, H T = none → tb { D with nx := Pv (i + 1), ct := Pv (i + 1), bk := D.nx } ((σ.set i1 (some (.int (i : Nat)))).set i2 (some x)) (upd H T (.tup [.int (i : Nat), x]))) (hd : ∀ σ H, Pv xs.length σ H → D.nx σ H) :
    ∃ W : Nat → Nat → L2.St → Hp → Prop, (∃ m, W 0 m σ H) ∧ ∀ i m σ H, W i m σ H →
      ((IteT K a).stop i H ∧ D.nx σ H) ∨ ((IteT K a).go i H ∧ ∃ N : L2.St → Hp → Prop, (∀ σ' H', N σ' H' → ∃ m', m' < m ∧ W (i + 1) m' σ' H') ∧ ∀ x H', (IteT K a).yld i H x H' → gTup K 2 (gCons (gName i1) (gCons (gName i2) gNil)) x σ H' fun σ2 H2 => tb { D with nx := N, ct := N, bk := D.nx } σ2 H2) := by
  refine ⟨fun i m σ H => m = xs.length - i ∧ i ≤ xs.length ∧ Pv i σ H, ⟨xs.length, by simp, Nat.zero_le _, h0⟩, ?_⟩
  rintro i m σ H ⟨rfl, hi, p⟩
  have q := hl i σ H hi p
  by_cases hlt : i < xs.length
  · refine .inr ⟨⟨xs, xs[i], q, by simp [hlt]⟩, Pv (i + 1), fun σ' H' p' => ⟨xs.length - (i + 1), by omega, rfl, hlt, p'⟩, fun x H' y => ?_⟩
    obtain ⟨T, z, rfl, nT, rfl, y⟩ := y
    exact ⟨T, _, rfl, SqT.of upd_same, rfl, _, _, rfl, _, _, rfl, rfl, hs i z σ H (y xs q) p T nT⟩
  · have e : i = xs.length := by omega
    subst e
    exact .inl ⟨⟨xs, q, rfl⟩, hd σ H p⟩
/-- [e for a, b in tuple of pairs if p] -/
theorem lc_pairsT {K : PySem.W.Frag} {a : Addr} {ts : List Addr} {cs : List (Int × Int)} {i1 i2 : Nat} {tt : TT} {te : TE} {vs : List Nat} {σ : L2.St} {H1 : Hp} {D : Addr} {Qd : Hp → Prop} (p : Int × Int → Bool) (R : V → Int × Int → Hp → Prop)
    (hR : ∀ y c H H' acc, H D = some (.lst acc) → Kp D H H' → R y c H → R y c H') (hD : H1 D = none) (hL : SqT K H1 a (ts.map V.ref)) (hP : P2 (PrT H1) ts cs) (hsz : cs.length ≤ 100000)
    (hw : ∀ x y, wipe (((wipe σ vs).set i1 x).set i2 y) vs = wipe σ vs)
    (ht : ∀ c ∈ cs, ∀ H Q, Same H1 H → (∀ H', Same H H' → Q (p c) H') → tt (((wipe σ vs).set i1 (some (.int c.1))).set i2 (some (.int c.2))) H Q)
    (he : ∀ c ∈ cs, p c = true → ∀ H Q, Same H1 H → (∀ y H', Same H H' → R y c H' → Q y H') → te (((wipe σ vs).set i1 (some (.int c.1))).set i2 (some (.int c.2))) H Q)
    (hd : ∀ ys H, Same H1 H → H D = some (.lst ys) → P2 (fun y c => R y c H) ys (cs.filter p) → Qd H) : LcG (Itt K a) (gTup K 2 (gCons (gName i1) (gCons (gName i2) gNil))) tt te vs σ H1 D Qd := by
  have hlen := hP.len
  refine lc_tup (K := K) (a := a) (xs := ts.map V.ref) (fun i H => Same H1 H ∧ ∃ ys, H D = some (.lst ys) ∧ P2 (fun y c => R y c H) ys ((cs.take i).filter p)) ⟨same_upd hD, [], upd_same, .nil⟩ (fun i H _ ⟨s, _⟩ => s.seqT hL) ?_ ?_
  · rintro i x H hx ⟨s, ys, hy, py⟩
    rw [List.getElem?_map] at hx
    cases ht' : ts[i]? with
    | none => rw [ht'] at hx; cases hx
    | some t =>
      rw [ht'] at hx
      cases hx
      obtain ⟨c, hc, r⟩ := hP.getl ht'
      have hi : i < cs.length := (List.getElem?_eq_some_iff.mp hc).1
      have ll : ys.length ≤ 100000 := by
        have h1 := py.len
        have h2 := List.length_filter_le p (cs.take i)
        rw [List.length_take] at h2
        omega
      refine ⟨t, _, rfl, SqT.of (s _ _ r), rfl, _, _, rfl, _, _, rfl, rfl, hw _ _, ht c (mem_of_at hc) H _ s fun H2 s2 => ?_⟩
      have py2 := py.mono fun v b rb => hR v b H H2 _ hy s2.kp rb
      have hy2 := s2 _ _ hy
      by_cases hp : p c = true
      · rw [if_pos hp]
        refine he c (mem_of_at hc) hp H2 _ (s.trans s2) fun y H' s' r => ⟨ys, s' _ _ hy2, small_app (Nat.le_refl _) ll, ((s.trans s2).trans s').wr hD, ys ++ [y], upd_same, ?_⟩
        rw [take_snoc hc, List.filter_append, List.filter_cons, if_pos hp, List.filter_nil]
        exact (py2.mono fun v b rb => hR v b H' _ _ (s' _ _ hy2) (kp_upd D H' _) (hR v b H2 H' _ hy2 s'.kp rb)).snoc (hR y c H' _ _ (s' _ _ hy2) (kp_upd D H' _) r)
      · rw [if_neg hp]
        refine ⟨s.trans s2, ys, hy2, ?_⟩
        rw [take_snoc hc, List.filter_append, List.filter_cons, if_neg hp, List.filter_nil, List.append_nil]
        exact py2
  · rintro H ⟨s, ys, hy, py⟩
    rw [List.length_map, hlen, List.take_length] at py
    exact hd ys H s hy py
/-- a class that is made by its name, one default: an empty tuple -/
structure Ini0 (K : PySem.W.Frag) (mg : Str → Option Value) (x qual : Str) (C : Addr) (st : Stmt) : Prop where
  ex : ∃ f fd d, Mk K C f ∧ mg x = some (.ref C) ∧ FunD K "__init__" qual (defArgs st) (defBody st) (defScope st) [.ref d] [] f fd ∧ ∀ H, SqT K H d []
def empB (a : PySem.W.Frag → Addr) (K : PySem.W.Frag) : Bool := match K.lookup (a K) with
  | some ⟨.type c, _, .seq its _, _⟩ => decide (c = "tuple") && its.toList.isEmpty
  | _ => false
theorem empB_ok {a : PySem.W.Frag → Addr} {K : PySem.W.Frag} (h : empB a K = true) : ∀ H, SqT K H (a K) [] := by
  intro H
  unfold empB at h
  split at h
  · rename_i c od its n osl e
    obtain ⟨h1, h2⟩ := He.ba h
    have e2 : its.toList = [] := List.isEmpty_iff.mp h2
    refine .inr ⟨_, its, n, e, by rw [of_decide_eq_true h1], rfl, ?_, by rw [e2]; exact .nil⟩
    have : its.size = 0 := by rw [← Array.length_toList, e2]; rfl
    rw [this]
    exact Nat.zero_le _
  · cases h
/-- a class made without an argument, a default kept -/
theorem pe_mkx0 {X : Cx} {k j : Nat} {C : Addr} {x : Str} {sp : Sp} {dvs : List V} {p pos : Pos} {E : XK} (c : Mak X.prog X.w X.K X.mg X.base k x C sp dvs) (hr : Room j X.A) (hk : k + 1 ≤ j) (hg : Gl X x) (hx : Passes (L2.CX X.prog X.w) X E)
    (hdb : (x == ("__debug__" : Str)) = false := by decide) : PE X (.Call (.Name x p) [] [] pos) (tMake C sp dvs E tNil) := by
  obtain ⟨f, fd, ps, ds, M, F, hm, b, d⟩ := c.ex
  exact pe_make0 M F (hr.mono hk) hg hm b d hx hdb
theorem pi_tupK {X : Cx} (K : PySem.W.Frag) {tg l : Expr} {tl : TE} (hl : PE X l tl) (hk : X.K = K := by rfl) : PI X tg l (iTup K tl) := by
  subst hk
  exact pi_tup hl
end Tr

/-! # Own operators with an int: o + n, n + o, -o. -/
namespace Tr
open PySem PySem.Spec PyProof.Rows L2
/-- what o + n leans on -/
structure IntOp (K : PySem.W.Frag) (C : Addr) (nm : String) : Prop where
  hc : PySem.W.selfFirst K C = true
  hr : ∃ rc, PySem.W.findIn K (.ref C) (dunderR nm) = some rc ∧ (rc = none ∨ ∃ g : Addr, rc = some (.ref g))
  h1 : ∃ fo, PySem.W.findIn K (.type "int") (PySem.dunder nm) = some fo
  h2 : ∃ ro, PySem.W.findIn K (.type "int") (dunderR nm) = some ro
  hs : PySem.W.subIn K (.type "int") (.ref C) = some false
  hs' : PySem.W.subIn K (.ref C) (.type "int") = some false
def intOpB (x : Str) (nm : String) (K : PySem.W.Frag) : Bool :=
  PySem.W.selfFirst K (He.ga K x) && ((match PySem.W.findIn K (.ref (He.ga K x)) (dunderR nm) with
    | some none => true
    | some (some (.ref _)) => true
    | _ => false) && ((PySem.W.findIn K (.type "int") (PySem.dunder nm)).isSome && ((PySem.W.findIn K (.type "int") (dunderR nm)).isSome &&
      (decide (PySem.W.subIn K (.type "int") (.ref (He.ga K x)) = some false) && decide (PySem.W.subIn K (.ref (He.ga K x)) (.type "int") = some false)))))
theorem intOpB_ok {x : Str} {nm : String} {K : PySem.W.Frag} (h : intOpB x nm K = true) : IntOp K (He.ga K x) nm := by
  obtain ⟨h1, h⟩ := He.ba h
  obtain ⟨h2, h⟩ := He.ba h
  obtain ⟨h3, h⟩ := He.ba h
  obtain ⟨h4, h⟩ := He.ba h
  obtain ⟨h5, h6⟩ := He.ba h
  refine ⟨h1, ?_, Option.isSome_iff_exists.mp h3, Option.isSome_iff_exists.mp h4, of_decide_eq_true h5, of_decide_eq_true h6⟩
  split at h2
  · rename_i e
    exact ⟨none, e, .inl rfl⟩
  · rename_i g e
    exact ⟨_, e, .inr ⟨g, rfl⟩⟩
  · cases h2
section
variable {prog : Program} {w : World} {A : Around} {E : Value → Shared → Prop} {s : Shared} {K : PySem.W.Frag} {x C L f f0 : Addr} {h₀ : Heap} {m : Str → Option Value} {ox : Obj} {od : Option Obj}
theorem int_add_no (a : Int) (t : Tok) (x C dx : Addr) : Meets (Builtin.«int.__add__» ⟨[.int a t, .ref x], []⟩) (fun _ R s => s.heap.get? x = some (PySem.W.instObj C dx) ∧ R (.ok (.ret Value.notImplemented)) s) := .of_wp fun prog w A R s h => by
  obtain ⟨hp, g, d, tk, os⟩ := s
  obtain ⟨hl, h⟩ := h
  unfold PySem.W.instObj at hl
  wp_walk
  exact ⟨_, rfl, h⟩
theorem int_mul_no (a : Int) (t : Tok) (x C dx : Addr) : Meets (Builtin.«int.__mul__» ⟨[.int a t, .ref x], []⟩) (fun _ R s => s.heap.get? x = some (PySem.W.instObj C dx) ∧ R (.ok (.ret Value.notImplemented)) s) := .of_wp fun prog w A R s h => by
  obtain ⟨hp, g, d, tk, os⟩ := s
  obtain ⟨hl, h⟩ := h
  unfold PySem.W.instObj at hl
  wp_walk
  exact ⟨_, rfl, h⟩
/-- int op o, by the class's reflected method -/
theorem binop_R {op : Operator} {a : Int} {t : Tok} {id : String} {Q : Value → Shared → Prop} (F : Fr h₀ L s.heap m) (X₀ : K.In h₀) (I : PySem.W.InstAt s.heap x ox C od) (i : IntOp K C op.info.2)
    (hs : PySem.W.findIn K (.ref C) (PySem.dunder op.info.2) = some (some (.ref f0))) (hr : PySem.W.findIn K (.ref C) (dunderR op.info.2) = some (some (.ref f))) (hf : PySem.W.isFn K (.ref f) = true)
    (hfT : fillsNumberSlot (.type "int") op.info.2 = pure true) (sl : Slot "int" (PySem.dunder op.info.2) id) (hd : ∀ E', wpAny (model prog w) A (call (.builtin id) [.int a t, .ref x]) (fun v s' => v = .notImplemented ∧ s' = s) E' s)
    (h : wpAny (model prog w) A (call (.ref f) [.ref x, .int a t]) (PySem.W.CmpBack Q) E s) : wpAny (model prog w) A (binaryOp op (.int a t) (.ref x)) Q E s := by
  have X := X₀.keeps F.keep
  obtain ⟨cd, rest, hcd, hm⟩ := PySem.W.ksp_first i.hc
  have one := PySem.W.ksp_try X I hr hf h
  have two : wpAny (model prog w) A (tryMethod (.int a t) (PySem.dunder op.info.2) (.ref x)) (fun r s' => r = none ∧ s' = s) E s :=
    wpAny_tryMethod_declines (T := "int") rfl sl (wpAny_mono (hd E) (fun v s' q => ⟨q.1, rfl, q.2⟩) fun _ _ z => z)
  rcases hi : op.info with ⟨sym, nm'⟩
  have i' := i
  rw [hi] at hs hr hfT sl one two i'
  dsimp only at hs hr hfT sl one two i'
  have L1 : PySem.W.Looks (model prog w) s.heap (typeOf (.ref x)) (.ref C) := I.type
  have L3 : PySem.W.Looks (model prog w) s.heap (fillsNumberSlot (.ref C) nm') true := PySem.W.fills_K X hcd hm hs
  have L5 : PySem.W.Looks (model prog w) s.heap (isSubtype (.ref C) (.type "int")) false := PySem.W.looks_subIn X i'.hs'
  have hne : (Value.type "int" == Value.ref C) = false := Bool.eq_false_iff.mpr fun q => by cases beq_iff_eq.mp q
  simp only [binaryOp, hi]
  refine wpAny_holding (wpAny_bind ?_)
  unfold binaryOp1
  refine wpAny_bind (wpAny_of_eq (a := Value.type "int") rfl (wpAny_bind (L1.here (wpAny_bind (wpAny_of_eq hfT ?_)))))
  simp only [hne, Bool.false_eq_true, if_false]
  refine wpAny_bind (L3.here ?_)
  simp only [Bool.and_self, if_true]
  refine wpAny_bind (L5.here ?_)
  simp only [Bool.false_eq_true, if_false, Bool.not_false, Bool.and_self, if_true]
  refine wpAny_bind (wpAny_of_eq (a := false) rfl ?_)
  simp only [Bool.false_eq_true, if_false, Bool.not_false, Bool.and_self, if_true]
  refine wpAny_bind (wpAny_mono two (fun r s' q => ?_) fun _ _ z => z)
  obtain ⟨rfl, rfl⟩ := q
  refine wpAny_bind (wpAny_mono one (fun r s' q => ?_) fun _ _ z => z)
  obtain ⟨v, rfl, q⟩ := q
  exact wpAny_bind (wpAny_rule (wpAny_pure (wpAny_pure q)))
end
section
variable {X : Cx} {k : Nat} {C : Addr} {m : Str} {sp : Sp} {E : XK}
/-- o op n -/
def rBinI (C : Addr) (sp : Sp) (E : XK) : R2 := fun x y H Q => ∃ a dx fs i, x = .ref a ∧ y = .int i ∧ H a = some (.ins C dx fs) ∧ sp [x, y] H (fun v H' => ∃ z, v = .ref z ∧ Q (.ref z) H') E
/-- n op o -/
def rBinR (C : Addr) (sp : Sp) (E : XK) : R2 := fun x y H Q => ∃ a dx fs i, x = .int i ∧ y = .ref a ∧ H a = some (.ins C dx fs) ∧ sp [y, x] H (fun v H' => ∃ z, v = .ref z ∧ Q (.ref z) H') E
theorem or_binI {op : Operator} (c : Met X.prog X.w X.K X.mg X.base k C m sp []) (hm : PySem.dunder op.info.2 = m) (i : IntOp X.K C op.info.2) {j : Nat} (hr : Room j X.A) (hk : k ≤ j) (hx : Passes (L2.CX X.prog X.w) X E) : OpR X (binaryOp op) (rBinI C sp E) := by
  subst hm
  obtain ⟨f, fd, ps, ds, hc, hm, F, b, d⟩ := c.ex
  cases d
  intro pins s σ H x y v u Q I rx ry h
  obtain ⟨a, dx, fs, n, rfl, rfl, ha, h⟩ := h
  cases rx
  obtain ⟨tk, rfl⟩ := ry
  obtain ⟨mA, J, _⟩ := ins_get I.hok ha
  obtain ⟨od, J, _⟩ := J.look
  obtain ⟨m, hF⟩ := I.fr
  obtain ⟨rc, hr1, hr2⟩ := i.hr
  obtain ⟨fo, h1⟩ := i.h1
  obtain ⟨ro, h2⟩ := i.h2
  refine PySem.W.ksp_binT (T := "int") hF I.ok.mod.kin J rfl i.hc hm.at_ hm.fn hr1 hr2 h1 h2 i.hs ?_
  refine wpAny_mono (run_at F (hr.mono hk) rfl b hx I (us := [.ref a, .int n tk]) (vs := [.ref a, .int n]) (.cons rfl (.cons ⟨_, rfl⟩ .nil)) h) (fun r s' q => ?_) fun _ _ z => z
  obtain ⟨z, H', I', rz, b', rfl, q⟩ := q
  cases rz
  exact ⟨.ref b', H', I', rfl, q⟩
/-- the left int's own method says no -/
structure IntNo (op : Operator) : Prop where
  fills : fillsNumberSlot (.type "int") op.info.2 = pure true
  ex : ∃ id b, Slot "int" (PySem.dunder op.info.2) id ∧ entryFor table id = some b ∧ (∀ x y, argsOk id ⟨[x, y], []⟩) ∧ ∀ (a : Int) (t : Tok) (x C dx : Addr), Meets (b ⟨[.int a t, .ref x], []⟩) (fun _ R s => s.heap.get? x = some (PySem.W.instObj C dx) ∧ R (.ok (.ret Value.notImplemented)) s)
theorem intNo_add : IntNo .Add := ⟨F.fills_int_add, _, _, F.slot_int_add, F.entry_int_add, F.args_int_add_2, int_add_no⟩
theorem intNo_mul : IntNo .Mult := ⟨F.fills_int_mul, _, _, F.slot_int_mul, F.entry_int_mul, F.args_int_mul_2, int_mul_no⟩
theorem or_binR {op : Operator} {m0 : Str} {sp0 : Sp} {k0 : Nat} (c : Met X.prog X.w X.K X.mg X.base k C m sp []) (c0 : Met X.prog X.w X.K X.mg X.base k0 C m0 sp0 []) (hm : dunderR op.info.2 = m) (hm0 : PySem.dunder op.info.2 = m0) (i : IntOp X.K C op.info.2) (no : IntNo op) {j : Nat} (hr : Room j X.A) (hk : k ≤ j) (hx : Passes (L2.CX X.prog X.w) X E) : OpR X (binaryOp op) (rBinR C sp E) := by
  subst hm hm0
  obtain ⟨f0, _, _, _, _, hm0, _, _, _⟩ := c0.ex
  obtain ⟨f, fd, ps, ds, hc, hm, F, b, d⟩ := c.ex
  cases d
  intro pins s σ H x y v u Q I rx ry h
  obtain ⟨a, dx, fs, n, rfl, rfl, ha, h⟩ := h
  obtain ⟨tk, rfl⟩ := rx
  cases ry
  obtain ⟨mA, J0, _⟩ := ins_get I.hok ha
  obtain ⟨od, J, _⟩ := J0.look
  obtain ⟨m, hF⟩ := I.fr
  obtain ⟨fills, id, bb, sl, en, ar, me⟩ := no
  refine binop_R hF I.ok.mod.kin J i hm0.at_ hm.at_ hm.fn fills sl (fun E' => ?_) ?_
  · exact call_meets sl (show s.TypeIs (.int n tk) "int" from rfl) en (ar _ _) (me n tk a C dx) ⟨J0.obj, rfl, rfl⟩
  · refine wpAny_mono (run_at F (hr.mono hk) rfl b hx I (us := [.ref a, .int n tk]) (vs := [.ref a, .int n]) (.cons rfl (.cons ⟨_, rfl⟩ .nil)) h) (fun r s' q => ?_) fun _ _ z => z
    obtain ⟨z, H', I', rz, b', rfl, q⟩ := q
    cases rz
    exact ⟨.ref b', H', I', rfl, q⟩
/-- -o -/
def rNegO (C : Addr) (sp : Sp) (E : XK) (x : V) (H : Hp) (Q : VK) : Prop := ∃ a dx fs, x = .ref a ∧ H a = some (.ins C dx fs) ∧ sp [x] H Q E
theorem pe_unO {u : UnaryOp} {j : Nat} {e : Expr} {ta : TE} {pos : Pos} (c : Met X.prog X.w X.K X.mg X.base k C m sp []) (hu : (u = .USub ∧ m = "__neg__") ∨ (u = .Invert ∧ m = "__invert__")) (hr : Room j X.A) (hk : k ≤ j) (hx : Passes (L2.CX X.prog X.w) X E) (ha : PE X e ta) :
    PE X (.UnaryOp u e pos) (fun σ H Q => ta σ H fun x H1 => rNegO C sp E x H1 Q) := by
  obtain ⟨f, fd, ps, ds, hc, hm, F, b, d⟩ := c.ex
  cases d
  refine ⟨fun pins s σ H Q I h => ?_⟩
  refine UnaryOp_ (thn (ha.run pins s σ H _ I h) fun v s1 ⟨x, H1, I1, r1, a, dx, fs, ex, ea, q1⟩ => ?_)
  subst ex
  cases r1
  obtain ⟨mA, J, _⟩ := ins_get I1.hok ea
  obtain ⟨od, J, _⟩ := J.look
  obtain ⟨m, hF⟩ := I1.fr
  have go := run_at (A := X.A) F (hr.mono hk) rfl b hx I1 (us := [.ref a]) (vs := [.ref a]) (.cons rfl .nil) q1
  rcases hu with ⟨rfl, rfl⟩ | ⟨rfl, rfl⟩
  · exact PySem.W.ksp_neg hF I1.ok.mod.kin J hm.at_ hm.fn go
  · exact PySem.W.ksp_inv hF I1.ok.mod.kin J hm.at_ hm.fn go
end
end Tr

/-! # min, max of a list of ints with a default. -/
namespace Tr
open PySem PySem.Spec PyProof.Rows L2 PySem.W
def rMinD (K : PySem.W.Frag) : List V → List V → Hp → VK → Prop := fun vs zs H Q => ∃ (a : Addr) (ns : List Int) (d : V), vs = [V.ref a] ∧ zs = [d] ∧ SqL K H a (ns.map V.int) ∧ (ns = [] → Q d H) ∧ ∀ m, m ∈ ns → (∀ y, y ∈ ns → m ≤ y) → Q (.int m) H
def rMaxD (K : PySem.W.Frag) : List V → List V → Hp → VK → Prop := fun vs zs H Q => ∃ (a : Addr) (ns : List Int) (d : V), vs = [V.ref a] ∧ zs = [d] ∧ SqL K H a (ns.map V.int) ∧ (ns = [] → Q d H) ∧ ∀ m, m ∈ ns → (∀ y, y ∈ ns → y ≤ m) → Q (.int m) H
theorem reads_ints {h : Heap} {ns : List Int} {its : List Value} (r : Vals (ns.map V.int) its) : ReadsAll h its (ns.map PyData.int) [] := by
  induction ns generalizing its with
  | nil =>
    cases r
    exact .nil
  | cons n ns ih =>
    cases r with
    | cons r rr =>
      obtain ⟨t, rfl⟩ := r
      exact .cons (as := []) (.int n t) (ih rr)
theorem alike_ints (ns : List Int) : AlikeAll (ns.map PyData.int) := by
  refine ⟨fun x hx y hy => ?_, fun x hx => ?_⟩
  · obtain ⟨a, _, rfl⟩ := List.mem_map.mp hx
    obtain ⟨b, _, rfl⟩ := List.mem_map.mp hy
    rfl
  · obtain ⟨a, _, rfl⟩ := List.mem_map.mp hx
    intro z
    cases z
theorem depth_ints0 : ∀ ns : List Int, PyData.depthAll (ns.map PyData.int) ≤ 0
  | [] => Nat.zero_le _
  | c :: cs => by
    have h := depth_ints0 cs
    show max 0 (PyData.depthAll (cs.map PyData.int)) ≤ 0
    omega
theorem fold_min (n : Int) : ∀ ns : List Int, (ns.foldl min n) ∈ n :: ns ∧ ∀ y ∈ n :: ns, ns.foldl min n ≤ y := by
  intro ns
  induction ns generalizing n with
  | nil => exact ⟨List.mem_cons_self, fun y hy => by rw [List.mem_singleton.mp hy]; exact Int.le_refl _⟩
  | cons k r ih =>
    obtain ⟨h1, h2⟩ := ih (min n k)
    rw [List.foldl_cons]
    have h3 := h2 _ List.mem_cons_self
    refine ⟨?_, fun y hy => ?_⟩
    · rcases List.mem_cons.mp h1 with e | h
      · rw [e]
        rcases Int.le_total n k with z | z
        · rw [Int.min_eq_left z]; exact List.mem_cons_self
        · rw [Int.min_eq_right z]; exact List.mem_cons_of_mem _ List.mem_cons_self
      · exact List.mem_cons_of_mem _ (List.mem_cons_of_mem _ h)
    · rcases List.mem_cons.mp hy with rfl | hy
      · omega
      · rcases List.mem_cons.mp hy with rfl | hy
        · omega
        · exact h2 y (List.mem_cons_of_mem _ hy)
theorem fold_max (n : Int) : ∀ ns : List Int, (ns.foldl max n) ∈ n :: ns ∧ ∀ y ∈ n :: ns, y ≤ ns.foldl max n := by
  intro ns
  induction ns generalizing n with
  | nil => exact ⟨List.mem_cons_self, fun y hy => by rw [List.mem_singleton.mp hy]; exact Int.le_refl _⟩
  | cons k r ih =>
    obtain ⟨h1, h2⟩ := ih (max n k)
    rw [List.foldl_cons]
    have h3 := h2 _ List.mem_cons_self
    refine ⟨?_, fun y hy => ?_⟩
    · rcases List.mem_cons.mp h1 with e | h
      · rw [e]
        rcases Int.le_total n k with z | z
        · rw [Int.max_eq_right z]; exact List.mem_cons_of_mem _ List.mem_cons_self
        · rw [Int.max_eq_left z]; exact List.mem_cons_self
      · exact List.mem_cons_of_mem _ (List.mem_cons_of_mem _ h)
    · rcases List.mem_cons.mp hy with rfl | hy
      · omega
      · rcases List.mem_cons.mp hy with rfl | hy
        · omega
        · exact h2 y (List.mem_cons_of_mem _ hy)
theorem cr_minD {X : Cx} (hc : X.calm = true) (hu : X.A.units + 64 < cLine) : CallRK X (.builtin "min") ["default"] (rMinD X.K) := by
  intro pins s σ H xs zs us ws Q I r rz h
  obtain ⟨a, ns, d, rfl, rfl, hs, q0, q⟩ := h
  obtain ⟨its, rv, hl, _⟩ := I.list hs
  rw [Vals.ref1 r]
  cases rz with
  | cons rd rr =>
    cases rr
    refine min_list_default (I.ok.hd hc) hl.isList (by simpa using reads_ints rv) (alike_ints ns) ?_ (fun e h' tk hk => ?_) fun y ys i v h' tk bs e hv hr hk => ?_
    · have := depth_ints0 ns
      omega
    · exact ⟨d, H, I.kept hk, rd, q0 (by cases ns with | nil => rfl | cons _ _ => cases e)⟩
    · cases ns with
      | nil => cases e
      | cons n ns =>
        rw [List.map_cons] at e
        injection e with e1 e2
        subst e1 e2
        rw [minD_ints] at hr
        cases hr
        obtain ⟨m1, m2⟩ := fold_min n ns
        exact ⟨.int _, H, I.kept hk, ⟨_, rfl⟩, q _ m1 m2⟩
theorem cr_maxD {X : Cx} (hc : X.calm = true) (hu : X.A.units + 64 < cLine) : CallRK X (.builtin "max") ["default"] (rMaxD X.K) := by
  intro pins s σ H xs zs us ws Q I r rz h
  obtain ⟨a, ns, d, rfl, rfl, hs, q0, q⟩ := h
  obtain ⟨its, rv, hl, _⟩ := I.list hs
  rw [Vals.ref1 r]
  cases rz with
  | cons rd rr =>
    cases rr
    refine max_list_default (I.ok.hd hc) hl.isList (by simpa using reads_ints rv) (alike_ints ns) ?_ (fun e h' tk hk => ?_) fun y ys i v h' tk bs e hv hr hk => ?_
    · have := depth_ints0 ns
      omega
    · exact ⟨d, H, I.kept hk, rd, q0 (by cases ns with | nil => rfl | cons _ _ => cases e)⟩
    · cases ns with
      | nil => cases e
      | cons n ns =>
        rw [List.map_cons] at e
        injection e with e1 e2
        subst e1 e2
        rw [maxD_ints] at hr
        cases hr
        obtain ⟨m1, m2⟩ := fold_max n ns
        exact ⟨.int _, H, I.kept hk, ⟨_, rfl⟩, q _ m1 m2⟩
end Tr

/-! # Constants of the module and of classes; comprehensions over any walk. -/
namespace Tr
open PySem PySem.Spec PyProof.Rows L2
/-- the module's name x holds the constant v -/
def GCon (mg : Str → Option Value) (x : Str) (v : V) : Prop := ∃ u, mg x = some u ∧ RelV v u
theorem gconS {mg : Str → Option Value} {x z : Str} (h : ∃ t, mg x = some (.str z t)) : GCon mg x (.str z) :=
  let ⟨t, e⟩ := h
  ⟨_, e, ⟨t, rfl⟩⟩
theorem gconI {mg : Str → Option Value} {x : Str} {i : Int} (h : ∃ t, mg x = some (.int i t)) : GCon mg x (.int i) :=
  let ⟨t, e⟩ := h
  ⟨_, e, ⟨t, rfl⟩⟩
theorem pe_gcon {X : Cx} {x : Str} {v : V} {pos : Pos} (h : GCon X.mg x v) (hg : Gl X x) (hd : (x == ("__debug__" : Str)) = false := by decide) : PE X (.Name x pos) (tC v) := by
  obtain ⟨u, hm, r⟩ := h
  exact pe_glob hg hm r hd
/-- C.f is the constant v -/
def CCon (K : PySem.W.Frag) (C : Addr) (f : Str) (v : V) : Prop := ∃ u, ClX.CRead K C (.type "type") ∧ ClX.CVal K C (.type "type") f v u
/-- e.f, e the class at C -/
def tCCon (C : Addr) (v : V) (ta : TE) : TE := fun σ H Q => ta σ H fun x H1 => x = .ref C ∧ Q v H1
theorem pe_ccon {X : Cx} {C : Addr} {e : Expr} {ta : TE} {f : Str} {v : V} {pos : Pos} (h : CCon X.K C f v) (he : PE X e ta) (hb : attributeBase e f X.env (eval e X.env) = eval e X.env := by rfl) : PE X (.Attribute e f pos) (tCCon C v ta) := by
  obtain ⟨w, r, k⟩ := h
  refine ⟨fun pins s σ H Q I h => ?_⟩
  refine attr_of hb (thn (he.run pins s σ H _ I h) fun u s1 ⟨x, H1, I1, rx, ex, q⟩ => ?_)
  subst ex
  obtain rfl : u = Value.ref C := rx
  exact ClX.getcval_ok I1 r k fun s2 I2 => ⟨v, H1, I2, k.rel, q⟩
theorem funD0 {K : PySem.W.Frag} {x qual : Str} {st : Stmt} {f : Addr} {fd : FuncData} (F : FunD K x qual (defArgs st) (defBody st) (defScope st) [] [] f fd) : Fun K x qual st f fd := by
  obtain ⟨oc, od, dV, kV, doc, pm, an, cdv, ct, osl, e, lk, hcd, hD, _⟩ := F.ex
  rcases hD with ⟨_, rfl⟩ | ⟨e, _⟩
  · exact ⟨⟨oc, od, kV, doc, pm, an, cdv, ct, osl, e, lk, hcd⟩, F.kp⟩
  · exact absurd rfl e
/-- a class method -/
structure Cmt (K : PySem.W.Frag) (C : Addr) (m qual : Str) (st : Stmt) : Prop where
  ex : ∃ p g fd, (ClX.CRead K C (.type "type") ∧ ClX.CMet K C (.type "type") m p g) ∧ Fun K m qual st g fd
/-- a class method that may be called -/
structure Cme (P : Program) (w : World) (K : PySem.W.Frag) (mg : Str → Option Value) (base : Heap) (k : Nat) (C : Addr) (m : Str) (sp : Sp) : Prop where
  ex : ∃ (p g : Addr), ClX.CRead K C (.type "type") ∧ ClX.CMet K C (.type "type") m p g ∧ FnR P w K mg base (L2.CX P w) k g sp
section
variable {P : Program} {w : World} {K : PySem.W.Frag} {mg : Str → Option Value} {base : Heap}
theorem cmeN {m qual : Str} {C : Addr} {st : Stmt} {N ps : List Str} {k : Nat} {sp : Sp} (D : Cmt K C m qual st) (S : FnScope N ps (defScope st)) (len : ∀ vs H Q E, sp vs H Q E → vs.length = ps.length)
    (hb : ∀ (kV doc pm : Value) (an : Option Addr) (cdv ct : Value) (us : List Value), us.length = ps.length → bindArgs (PySem.W.fnOf m qual (defArgs st) (defBody st) (defScope st) .none kV doc pm an cdv ct) ⟨us, []⟩ = pure (ps.zip us))
    (hbody : ∀ (f : Addr) (cdv : Value) (A : Around) (outer : List Env) (s : Shared) (H : Hp) (vs : List V) (Q : VK) (E : XK), Room k (A.deeper (envOfC qual (defScope st) s.heap.objs.size f cdv)) → sp vs H Q E →
      ∃ t, PSs (cxOf (L2.CX P w) P w K mg base N qual (defScope st) f cdv A outer s H E).nox (defBody st) t ∧ t { nx := fun _ H' => Q .non H', rt := Q } (start N vs) H) : Cme P w K mg base (k + 1) C m sp :=
  let ⟨p, g, fd, ⟨r, c⟩, F⟩ := D.ex
  ⟨p, g, r, c, ((okN F S len (hbody g)).raw (F.binds hb) .nil).imp fun vs H Q E h => by rw [List.append_nil]; exact h⟩
theorem cmeX {m qual : Str} {C : Addr} {st : Stmt} {N ps : List Str} {k : Nat} {sp : Sp} (D : Cmt K C m qual st) (S : FnScope N ps (defScope st)) (len : ∀ vs H Q E, sp vs H Q E → vs.length = ps.length)
    (hb : ∀ (kV doc pm : Value) (an : Option Addr) (cdv ct : Value) (us : List Value), us.length = ps.length → bindArgs (PySem.W.fnOf m qual (defArgs st) (defBody st) (defScope st) .none kV doc pm an cdv ct) ⟨us, []⟩ = pure (ps.zip us))
    (hbody : ∀ (f : Addr) (cdv : Value) (A : Around) (outer : List Env) (s : Shared) (H : Hp) (vs : List V) (Q : VK) (E : XK), Room k (A.deeper (envOfC qual (defScope st) s.heap.objs.size f cdv)) → sp vs H Q E →
      ∃ t, PSs (cxOf (L2.CX P w) P w K mg base N qual (defScope st) f cdv A outer s H E) (defBody st) t ∧ t { nx := fun _ H' => Q .non H', rt := Q } (start N vs) H) : Cme P w K mg base (k + 1) C m sp :=
  let ⟨p, g, fd, ⟨r, c⟩, F⟩ := D.ex
  ⟨p, g, r, c, ((F.okX S len (hbody g)).raw (F.binds hb) .nil).imp fun vs H Q E h => by rw [List.append_nil]; exact h⟩
end
/-- C.m(e, ..), m a class method -/
theorem pe_cme {X : Cx} {k j : Nat} {C : Addr} {m : Str} {sp : Sp} {pos apos : Pos} {e o : Expr} {es : List Expr} {ta : TE} {t : TA} {E : XK} {pl : Sem Bool} (c : Cme X.prog X.w X.K X.mg X.base k C m sp) (hr : Room j X.A) (hk : k ≤ j) (hx : Passes (L2.CX X.prog X.w) X E) (he : PE X o ta) (ha : PA X (e :: es) t)
    (hst : starEach (e :: es) X.env = (false, eval e X.env) :: starEach es X.env := by rfl) (hpl : (backTo pos (starEach es X.env)).any (·.1) = false := by rfl)
    (ht : eval (.Call (.Attribute o m apos) (e :: es) [] pos) X.env = (do
      let ov ← eval o X.env
      standAt apos.atName
      let (f, first) ← holding [ov] (getMethod ov m pl)
      callWith pos f first (backTo pos (starEach (e :: es) X.env)) (backToKw pos (keywordEach [] X.env))) := by rfl) :
    PE X (.Call (.Attribute o m apos) (e :: es) [] pos) (ClX.tCMeth C sp E ta t) := by
  obtain ⟨p, g, r, cm, F⟩ := c.ex
  exact ClX.pe_cmeth (pl := pl) he r cm F (hr.mono hk) hx ha hst hpl ht
/-- any comprehension over a walk of items of cs -/
theorem lc_gen {α : Type} {J : It} {G : Hp → Prop} {Y : Nat → Hp → V → Hp → Prop} {cs : List α} {g : TG} {tt : TT} {te : TE} {vs : List Nat} {σ : L2.St} {H1 : Hp} {D : Addr} {Qd : Hp → Prop} (w : Walk J cs.length G Y) (S : α → L2.St) (p : α → Bool) (R : V → α → Hp → Prop)
    (hR : ∀ y c H H' acc, H D = some (.lst acc) → Kp D H H' → R y c H → R y c H') (hD : H1 D = none) (hsz : cs.length ≤ 100000)
    (hG : ∀ H, Same H1 H → G H)
    (hY : ∀ i H x H' c, cs[i]? = some c → Same H1 H → Y i H x H' → Same H H' ∧ ∀ Q : L2.St → Hp → Prop, Q (S c) H' → g x (wipe σ vs) H' Q)
    (hw : ∀ c ∈ cs, wipe (S c) vs = wipe σ vs)
    (ht : ∀ c ∈ cs, ∀ H Q, Same H1 H → (∀ H', Same H H' → Q (p c) H') → tt (S c) H Q)
    (he : ∀ c ∈ cs, p c = true → ∀ H Q, Same H1 H → (∀ y H', Same H H' → R y c H' → Q y H') → te (S c) H Q)
    (hd : ∀ ys H, Same H1 H → H D = some (.lst ys) → P2 (fun y c => R y c H) ys (cs.filter p) → Qd H) : LcG J g tt te vs σ H1 D Qd := by
  refine lc_it w (fun i H => Same H1 H ∧ ∃ ys, H D = some (.lst ys) ∧ P2 (fun y c => R y c H) ys ((cs.take i).filter p)) ⟨same_upd hD, [], upd_same, .nil⟩ (fun i H _ ⟨s, _⟩ => hG H s) ?_ ?_
  · rintro i x H H0 hi ⟨s, ys, hy, py⟩ hyl
    have hc : cs[i]? = some cs[i] := List.getElem?_eq_getElem hi
    generalize cs[i] = c at hc
    obtain ⟨s0, hg⟩ := hY i H x H0 c hc s hyl
    have ll : ys.length ≤ 100000 := by
      have h1 := py.len
      have h2 := List.length_filter_le p (cs.take i)
      rw [List.length_take] at h2
      omega
    refine hg _ ⟨hw c (mem_of_at hc), ht c (mem_of_at hc) H0 _ (s.trans s0) fun H2 s2' => ?_⟩
    have s2 := s0.trans s2'
    have py2 := py.mono fun v b rb => hR v b H H2 _ hy s2.kp rb
    have hy2 := s2 _ _ hy
    by_cases hp : p c = true
    · rw [if_pos hp]
      refine he c (mem_of_at hc) hp H2 _ (s.trans s2) fun y H' s' r => ⟨ys, s' _ _ hy2, small_app (Nat.le_refl _) ll, ((s.trans s2).trans s').wr hD, ys ++ [y], upd_same, ?_⟩
      rw [take_snoc hc, List.filter_append, List.filter_cons, if_pos hp, List.filter_nil]
      exact (py2.mono fun v b rb => hR v b H' _ _ (s' _ _ hy2) (kp_upd D H' _) (hR v b H2 H' _ hy2 s'.kp rb)).snoc (hR y c H' _ _ (s' _ _ hy2) (kp_upd D H' _) r)
    · rw [if_neg hp]
      refine ⟨s.trans s2, ys, hy2, ?_⟩
      rw [take_snoc hc, List.filter_append, List.filter_cons, if_neg hp, List.filter_nil, List.append_nil]
      exact py2
  · rintro H ⟨s, ys, hy, py⟩
    rw [List.take_length] at py
    exact hd ys H s hy py
/-- a text's signs, as a walk of items -/
theorem walk_txt {z : Str} : Walk (Its z) (TL.tl z).length (fun _ => True) (fun i H v H' => H' = H ∧ ∃ c, (TL.tl z)[i]? = some c ∧ v = .str ⟨#[c]⟩) := by
  have e : (TL.tl z).length = z.cps.size := Array.length_toList
  rw [e]
  refine walk_str.mono (fun _ h => h) fun i H x H' hi _ y => ⟨y.1, ?_⟩
  obtain ⟨c, h1, h2⟩ := y.2
  exact ⟨c, by show z.cps.toList[i]? = _; rw [Array.getElem?_toList]; exact h1, h2⟩
/-! ### facts of the head -/
def creadB (x : Str) (K : PySem.W.Frag) : Bool := PySem.W.readsIn K (He.ga K x) (.type "type") && He.eqO (PySem.W.specialIn K (.ref (He.ga K x)) "__getattribute__") (some (some (.builtin "type.__getattribute__")))
theorem creadB_ok {x : Str} {K : PySem.W.Frag} (h : creadB x K = true) : ClX.CRead K (He.ga K x) (.type "type") := by
  obtain ⟨h1, h2⟩ := He.ba h
  exact ⟨h1, He.eqO_ok h2⟩
def cvalB (r : Option PySem.W.CFound) (v : V) : Bool := match r with
  | some (.val u) => He.relB v u
  | _ => false
def cconB (x f : Str) (v : V) (K : PySem.W.Frag) : Bool := creadB x K && cvalB (PySem.W.findCls K (.ref (He.ga K x)) (.type "type") f) v
theorem cconB_ok {x f : Str} {v : V} {K : PySem.W.Frag} (h : cconB x f v K = true) : CCon K (He.ga K x) f v := by
  obtain ⟨h1, h2⟩ := He.ba h
  unfold cvalB at h2
  split at h2
  · rename_i u e
    exact ⟨u, creadB_ok h1, e, He.relB_ok h2⟩
  · cases h2
def cmfB (r : Option PySem.W.CFound) (p C : Addr) : Bool := match r with
  | some (.get (.builtin b) (.ref q) .none (.ref D)) => decide (b = "classmethod.__get__") && (decide (q = p) && decide (D = C))
  | _ => false
def gofC (K : PySem.W.Frag) (p : Addr) : Addr := match PySem.W.recIn K p "classmethod" with
  | some (.ref g :: _) => g
  | _ => 0
def cmB (x m : Str) (K : PySem.W.Frag) : Bool := creadB x K && (cmfB (PySem.W.findCls K (.ref (He.ga K x)) (.type "type") m) (He.ma K (He.ga K x) m) (He.ga K x) && ((match PySem.W.recIn K (He.ma K (He.ga K x) m) "classmethod" with
    | some (.ref _ :: _) => true
    | _ => false) && PySem.W.fnIn K (gofC K (He.ma K (He.ga K x) m))))
theorem cmB_ok {x m : Str} {K : PySem.W.Frag} (h : cmB x m K = true) : ClX.CRead K (He.ga K x) (.type "type") ∧ ClX.CMet K (He.ga K x) (.type "type") m (He.ma K (He.ga K x) m) (gofC K (He.ma K (He.ga K x) m)) := by
  obtain ⟨h1, h⟩ := He.ba h
  obtain ⟨h2, h⟩ := He.ba h
  obtain ⟨h3, h4⟩ := He.ba h
  refine ⟨creadB_ok h1, ?_, ?_, h4⟩
  · unfold cmfB at h2
    split at h2
    · rename_i b q D e
      obtain ⟨k1, k⟩ := He.ba h2
      obtain ⟨k2, k3⟩ := He.ba k
      rw [e, of_decide_eq_true k1, of_decide_eq_true k2, of_decide_eq_true k3]
    · cases h2
  · unfold gofC
    split at h3
    · rename_i g r e
      rw [e]
      exact ⟨r, rfl⟩
    · cases h3
end Tr

/-! # Slices with a step, of lists and tuples; parts that may be None. -/
namespace Tr
open PySem PySem.Spec PyProof.Rows L2 HT
theorem same_made {H : Hp} {x dx : Addr} {o o2 : HO} (nx : H x = none) (ndx : H dx = none) : Same H (upd (upd H dx o2) x o) := fun b u e => by
  rw [upd_ne (ne_of_none e nx), upd_ne (ne_of_none e ndx)]
  exact e
theorem mk_same {H H' : Hp} {x dx : Addr} {o o2 : HO} (k : ∀ b u, upd (upd H dx o2) x o b = some u → b ≠ x → H' b = some u) (nx : H x = none) (ndx : H dx = none) : Same H H' := fun b u e => k b u (same_made nx ndx _ _ e) (ne_of_none e nx)
/-- first place, step, number of places -/
def slB (lo hi st : Option Int) (n : Nat) : Int × Int × Nat := ((Builtin.Slice.sliceAdjust lo hi (st.getD 1) (n : Int)).1, st.getD 1, Builtin.Slice.slicePlaces (Builtin.Slice.sliceAdjust lo hi (st.getD 1) (n : Int)).1 (Builtin.Slice.sliceAdjust lo hi (st.getD 1) (n : Int)).2 (st.getD 1))
def slP {α : Type} (xs : List α) (b : Int × Int × Nat) : List α := (List.range b.2.2).filterMap fun (m : Nat) => xs[(b.1 + (m : Int) * b.2.1).toNat]?
/-- xs[lo:hi:st] -/
def slV {α : Type} (xs : List α) (lo hi st : Option Int) : List α := slP xs (slB lo hi st xs.length)
theorem slV_map {α β : Type} (f : α → β) (xs : List α) (lo hi st : Option Int) : slV (xs.map f) lo hi st = (slV xs lo hi st).map f := by
  unfold slV slP
  rw [List.length_map, List.map_filterMap]
  congr 1
  funext m
  rw [List.getElem?_map]
theorem slV_mem {α : Type} {xs : List α} {lo hi st : Option Int} {x : α} (h : x ∈ slV xs lo hi st) : x ∈ xs := by
  unfold slV slP at h
  obtain ⟨m, _, e⟩ := List.mem_filterMap.mp h
  exact List.mem_of_getElem? e
theorem slV_len {α : Type} (xs : List α) (lo hi st : Option Int) : (slV xs lo hi st).length ≤ (slB lo hi st xs.length).2.2 := by
  unfold slV slP
  exact Nat.le_trans (List.length_filterMap_le _ _) (by rw [List.length_range]; exact Nat.le_refl _)
theorem P2.sl {α β : Type} {R : α → β → Prop} {l : List α} {m : List β} (h : P2 R l m) (lo hi st : Option Int) : P2 R (slV l lo hi st) (slV m lo hi st) := by
  unfold slV
  rw [h.len]
  generalize slB lo hi st m.length = b
  unfold slP
  generalize b.2.2 = k
  induction k with
  | zero => exact .nil
  | succ k ih =>
    rw [List.range_succ, List.filterMap_append, List.filterMap_append]
    refine ih.app ?_
    rw [List.filterMap_cons, List.filterMap_cons, List.filterMap_nil, List.filterMap_nil]
    cases e : l[(b.1 + (k : Int) * b.2.1).toNat]? with
    | none =>
      have : m[(b.1 + (k : Int) * b.2.1).toNat]? = none := by
        rw [List.getElem?_eq_none_iff] at e ⊢
        rw [← h.len]
        exact e
      rw [this]
      exact .nil
    | some x =>
      obtain ⟨y, ey, r⟩ := h.getl e
      rw [ey]
      exact .cons r .nil
theorem slB_eq (lo hi st : Option Int) (n : Nat) (h0 : st ≠ some 0) :
    (sliceRange (sliceBounds lo hi st n).1 (sliceBounds lo hi st n).2.1 (sliceBounds lo hi st n).2.2) = (List.range (slB lo hi st n).2.2).map fun (m : Nat) => ((slB lo hi st n).1 + (m : Int) * (slB lo hi st n).2.1).toNat := by
  have hs : st.getD 1 ≠ 0 := by
    cases st with
    | none => decide
    | some i => exact fun z => h0 (by show some i = some 0; rw [show i = 0 from z])
  have b1 : (sliceBounds lo hi st n).1 = (slB lo hi st n).1 := by
    unfold sliceBounds slB Builtin.Slice.sliceAdjust
    dsimp only
    generalize st.getD 1 = c at hs
    by_cases hc : c > 0
    · have : ¬ c < 0 := by omega
      simp only [hc, this, if_true, if_false]
      cases lo with
      | none => rfl
      | some v => dsimp only; split <;> omega
    · have : c < 0 := by omega
      simp only [hc, this, if_true, if_false]
      cases lo with
      | none => rfl
      | some v => dsimp only; split <;> omega
  have b2 : (sliceBounds lo hi st n).2.1 = (Builtin.Slice.sliceAdjust lo hi (st.getD 1) (n : Int)).2 := by
    unfold sliceBounds Builtin.Slice.sliceAdjust
    dsimp only
    generalize st.getD 1 = c at hs
    by_cases hc : c > 0
    · have : ¬ c < 0 := by omega
      simp only [hc, this, if_true, if_false]
      cases hi with
      | none => rfl
      | some v => dsimp only; split <;> omega
    · have : c < 0 := by omega
      simp only [hc, this, if_true, if_false]
      cases hi with
      | none => rfl
      | some v => dsimp only; split <;> omega
  have b3 : (sliceBounds lo hi st n).2.2 = st.getD 1 := rfl
  have e1 : (slB lo hi st n).1 = (Builtin.Slice.sliceAdjust lo hi (st.getD 1) (n : Int)).1 := rfl
  have e2 : (slB lo hi st n).2.1 = st.getD 1 := rfl
  have e3 : (slB lo hi st n).2.2 = Builtin.Slice.slicePlaces (Builtin.Slice.sliceAdjust lo hi (st.getD 1) (n : Int)).1 (Builtin.Slice.sliceAdjust lo hi (st.getD 1) (n : Int)).2 (st.getD 1) := rfl
  rw [b1, b2, b3, e3, ← e1, e2]
  generalize (slB lo hi st n).1 = a
  generalize (Builtin.Slice.sliceAdjust lo hi (st.getD 1) (n : Int)).2 = b
  generalize st.getD 1 = c at hs
  unfold sliceRange Builtin.Slice.slicePlaces
  dsimp only
  have ec : (if c > 0 then (if a < b then (b - a + c - 1) / c else 0) else (if a > b then (a - b - c - 1) / (-c) else 0)) = (if c > 0 then (if a < b then (b - a - 1) / c + 1 else 0) else (if a > b then (a - b - 1) / (-c) + 1 else 0)) := by
    split
    · split
      · rw [show b - a + c - 1 = (b - a - 1) + c by omega, Int.add_ediv_of_dvd_right ⟨1, (Int.mul_one c).symm⟩, Int.ediv_self hs]
      · rfl
    · split
      · rw [show a - b - c - 1 = (a - b - 1) + (-c) by omega, Int.add_ediv_of_dvd_right ⟨1, (Int.mul_one (-c)).symm⟩, Int.ediv_self (by omega)]
      · rfl
  rw [ec]
  congr 1
  funext k
  rw [Int.mul_comm]
theorem slicePick_eq (items : Array Value) (lo hi st : Option Int) (h0 : st ≠ some 0) : slicePick items lo hi st = (slV items.toList lo hi st).toArray := by
  unfold slicePick slV slP
  rw [slB_eq lo hi st items.size h0, List.filterMap_map, Array.length_toList]
  congr 2
  funext m
  show items[_]? = items.toList[_]?
  rw [Array.getElem?_toList]
/-- none of the places is beyond the ends -/
theorem slV_le {α : Type} (xs : List α) (lo hi st : Option Int) (h0 : st ≠ some 0) : (slV xs lo hi st).length ≤ xs.length := by
  have h := slB_eq lo hi st xs.length h0
  have h2 : (slV xs lo hi st) = (sliceRange (sliceBounds lo hi st xs.length).1 (sliceBounds lo hi st xs.length).2.1 (sliceBounds lo hi st xs.length).2.2).filterMap fun i => xs[i]? := by
    rw [h, List.filterMap_map]
    rfl
  rw [h2]
  refine Nat.le_trans (List.length_filterMap_le _ _) (sliceRange_length_le _ _ _ _ (fun hc => ?_) fun hc => ?_)
  · simp only [sliceBounds] at hc ⊢
    simp only [hc, if_true]
    constructor
    · cases lo with
      | none => simp
      | some i => dsimp only; omega
    · cases hi with
      | none => simp
      | some i => dsimp only; omega
  · simp only [sliceBounds] at hc ⊢
    simp only [hc, if_false]
    constructor
    · cases lo with
      | none => simp
      | some i => dsimp only; omega
    · cases hi with
      | none => simp
      | some i => dsimp only; omega
theorem slP_whole {α : Type} (xs : List α) : slP xs (0, 1, xs.length) = xs := by
  unfold slP
  show (List.range xs.length).filterMap (fun (m : Nat) => xs[((0 : Int) + (m : Int) * 1).toNat]?) = xs
  have e : (fun (m : Nat) => xs[((0 : Int) + (m : Int) * 1).toNat]?) = fun m => xs[m]? := by
    funext m
    have : ((0 : Int) + (m : Int) * 1).toNat = m := by omega
    rw [this]
  rw [e]
  have key : ∀ (ys zs : List α), (List.range zs.length).filterMap (fun m => (zs ++ ys)[m]?) = zs := by
    intro ys zs
    rcases List.eq_nil_or_concat zs with rfl | ⟨l, x, rfl⟩
    · rfl
    · induction l generalizing ys x with
      | nil => simp
      | cons a l ih =>
        rw [List.concat_eq_append] at *
        rw [List.cons_append, List.length_cons, List.range_succ_eq_map, List.filterMap_cons]
        simp only [List.cons_append, List.getElem?_cons_zero, List.filterMap_map]
        have := ih ys x
        rw [List.concat_eq_append] at this
        congr 1
  have := key [] xs
  rwa [List.append_nil] at this
section
variable {prog : Program} {w : World} {A : Around} {E : Value → Shared → Prop} {s : Shared}
theorem sliceApplied_any {sl : Addr} {vl vu vs : Value} {lo hi st : Option Int} {n : Nat} {Q : Int × Int × Nat → Shared → Prop} (hs : s.heap.IsSliceOf sl vl vu vs) (pl : IsPart vl lo) (pu : IsPart vu hi) (ps : IsPart vs st) (h0 : st ≠ some 0)
    (h : Q (slB lo hi st n) s) : wpAny (model prog w) A (Builtin.Slice.sliceApplied (.ref sl) (pure (n : Int))) Q E s := by
  have hst : st.getD 1 ≠ 0 := by
    cases st with
    | none => decide
    | some i => exact fun z => h0 (by show some i = some 0; rw [show i = 0 from z])
  obtain ⟨os, hos, hcs, hds⟩ := id hs
  unfold Builtin.Slice.sliceApplied Builtin.Slice.sliceFields
  refine wpAny_bind (wpAny_bind (wpAny_field hos hds (x := vl) rfl (wpAny_bind (wpAny_field hos hds (x := vu) rfl (wpAny_bind (wpAny_field hos hds (x := vs) rfl (wpAny_pure ?_)))))))
  refine wpAny_bind (slicePart_ ps ?_)
  show wpAny _ _ (if ((st.getD 1) == 0) = true then _ else _) _ _ s
  rw [if_neg (by simpa using hst)]
  refine wpAny_bind (slicePart_ pl (wpAny_bind (slicePart_ pu (wpAny_bind (wpAny_pure ?_)))))
  exact wpAny_pure h
theorem getItem_tuple_any {t sl : Addr} {items : Array Value} {vl vu vs : Value} {lo hi st : Option Int} {Q : Value → Shared → Prop} (ht : IsTup s.heap t items) (hs : s.heap.IsSliceOf sl vl vu vs) (pl : IsPart vl lo) (pu : IsPart vu hi) (ps : IsPart vs st) (h0 : st ≠ some 0)
    (h1 : slB lo hi st items.size = (0, 1, items.size) → Q (.ref t) s) (h2 : Q (.ref s.heap.objs.size) { s with heap := s.heap.push { cls := .type "tuple", data := .seq (slV items.toList lo hi st).toArray } })
    (hsz : items.size ≤ sizeLine) : wpAny (model prog w) A (getItem (.ref t) (.ref sl)) Q E s := by
  have htake : sizeOk (.seq (slV items.toList lo hi st).toArray) := by
    show (slV items.toList lo hi st).toArray.size ≤ sizeLine
    rw [List.size_toArray]
    exact Nat.le_trans (slV_le _ _ _ _ h0) (by rw [Array.length_toList]; exact hsz)
  obtain ⟨os, hos, hcs, hds⟩ := id hs
  have hTs : s.TypeIs (.ref sl) "slice" := ⟨os, hos, hcs⟩
  unfold getItem
  try with_reducible refine wpAny_holding ?_
  first | refine wpAny_bind (wpAny_pure ?_) | skip
  refine wpAny_bind (wpAny_sequenceKey ht.typeIs (by decide) ?_)
  refine wpAny_bind (wpAny_callSpecial?_slot (name := Str.ofString "__getitem__") ht.typeIs PyProof.Rows.slot_tuple_getitem
    (wpAny_call_entry PyProof.Rows.slot_tuple_getitem ht.typeIs entry_tuple_getitem ?_ (args_tuple_getitem _ _)))
  show wpAny _ _ (Builtin.Tuple.tupleItemsOf (.ref t) >>= _) _ _ s
  refine wpAny_bind (tupleItemsOf_ ht ?_)
  refine wpAny_bind (wpAny_typeOf hTs ?_)
  rw [if_pos (by decide)]
  refine wpAny_bind (sliceApplied_any hs pl pu ps h0 ?_)
  have ev : slV items.toList lo hi st = slP items.toList (slB lo hi st items.size) := by unfold slV; rw [Array.length_toList]
  rw [ev] at h2 htake
  generalize slB lo hi st items.size = b at *
  obtain ⟨b1, b2, b3⟩ := b
  show wpAny _ _ (if ((b1 : Int) == 0 && b2 == 1 && b3 == items.size) = true then _ else _) _ _ s
  by_cases hw : ((b1 : Int) == 0 && b2 == 1 && b3 == items.size) = true
  · rw [if_pos hw]
    rw [Bool.and_eq_true, Bool.and_eq_true] at hw
    have e1 : b1 = 0 := eq_of_beq hw.1.1
    have e2 : b2 = 1 := eq_of_beq hw.1.2
    have e3 : b3 = items.size := eq_of_beq hw.2
    subst e1 e2 e3
    have h := h1 rfl
    refine wpAny_bind ?_
    show wpAny _ _ (typeOf (.ref t) >>= fun T => pure (T == .type "tuple")) _ _ s
    refine wpAny_bind (wpAny_typeOf ht.typeIs (wpAny_pure ?_))
    first
      | rw [if_pos (by decide)]
      | simp only [beq_self_eq_true, if_true]
    first
      | exact wpAny_bind (wpAny_rule (wpAny_pure ⟨_, rfl, wpAny_pure h⟩))
      | exact wpAny_bind (wpAny_rule (wpAny_bind (wpAny_pure (wpAny_pure ⟨_, rfl, wpAny_pure h⟩))))
  · rw [if_neg hw]
    have ep : ((List.range b3).filterMap fun (m : Nat) => items[(b1 + (m : Int) * b2).toNat]?).toArray = (slP items.toList (b1, b2, b3)).toArray := by
      unfold slP
      congr 2
      funext m
      show items[_]? = items.toList[_]?
      rw [Array.getElem?_toList]
    rw [ep]
    first
      | exact wpAny_bind (m := Builtin.Tuple.tupleExact _) (wpAny_newObj_type (wpAny_pure ⟨_, rfl, wpAny_pure h2⟩) htake)
      | exact wpAny_bind (m := Builtin.Tuple.tupleExact _) (wpAny_newObj_type (wpAny_bind (wpAny_pure (wpAny_pure ⟨_, rfl, wpAny_pure h2⟩))) htake)
      | exact wpAny_bind (wpAny_bind (m := Builtin.Tuple.tupleExact _) (wpAny_newObj_type (wpAny_pure (wpAny_pure ⟨_, rfl, wpAny_pure h2⟩)) htake))
      | exact wpAny_bind (wpAny_bind (m := Builtin.Tuple.tupleExact _) (wpAny_newObj_type (wpAny_pure ⟨_, rfl, wpAny_pure h2⟩) htake))
end
section
variable {X : Cx} {e se : Expr} {te ts : TE} {lo hi : Option Expr} {tl th tst : TO} {pos p2 p3 : Pos}
/-- a part that is an int or None -/
def tPartN (t : TE) : TO := fun σ H Q => t σ H fun x H1 => (∃ i, x = .int i ∧ Q (some i) H1) ∨ (x = .non ∧ Q none H1)
theorem po_someN (h : PE X e te) : PO X (some e) (tPartN te) := by
  refine ⟨fun pins s σ H Q I hw => ?_⟩
  rw [evalPart_some]
  refine thn (h.run pins s σ H _ I hw) fun u s1 ⟨x, H1, I1, r1, q1⟩ => ?_
  rcases q1 with ⟨i, rfl, q⟩ | ⟨rfl, q⟩
  · obtain ⟨t, rfl⟩ := r1
    exact ⟨some i, H1, I1, .int i t, q⟩
  · cases r1
    exact ⟨none, H1, I1, .none, q⟩
/-- x[lo:hi:st] by values -/
abbrev R3s := V → Option Int → Option Int → Option Int → Hp → VK → Prop
def tSl3 (r : R3s) (te : TE) (tl th tst : TO) : TE := fun σ H Q => te σ H fun x H1 => tl σ H1 fun l H2 => th σ H2 fun u H3 => tst σ H3 fun c H4 => r x l u c H4 Q
def rSl3L (K : PySem.W.Frag) : R3s := fun x lo hi st H Q => ∃ a xs, x = .ref a ∧ SqL K H a xs ∧ st ≠ some 0 ∧ ∀ p, H p = none → Q (.ref p) (upd H p (.lst (slV xs lo hi st)))
def rSl3T (K : PySem.W.Frag) : R3s := fun x lo hi st H Q => ∃ a xs, x = .ref a ∧ SqT K H a xs ∧ st ≠ some 0 ∧ ∀ p H', Same H H' → SqT K H' p (slV xs lo hi st) → Q (.ref p) H'
theorem vals_sl {xs : List V} {us : List Value} (r : Vals xs us) (lo hi st : Option Int) : Vals (slV xs lo hi st) (slV us lo hi st) := by
  have hlen := r.length
  unfold slV
  rw [hlen]
  generalize slB lo hi st us.length = b
  unfold slP
  generalize b.2.2 = k
  induction k with
  | zero => exact .nil
  | succ k ih =>
    rw [List.range_succ, List.filterMap_append, List.filterMap_append]
    refine ih.append ?_
    rw [List.filterMap_cons, List.filterMap_cons, List.filterMap_nil, List.filterMap_nil]
    cases e : xs[(b.1 + (k : Int) * b.2.1).toNat]? with
    | none =>
      have : us[(b.1 + (k : Int) * b.2.1).toNat]? = none := by
        rw [List.getElem?_eq_none_iff] at e ⊢
        rw [← hlen]
        exact e
      rw [this]
      exact .nil
    | some x =>
      obtain ⟨y, ey, ry⟩ := r.get e
      rw [ey]
      exact .cons ry .nil
theorem pe_sl3L (he : PE X e te) (hl : PO X lo tl) (hh : PO X hi th) (hst : PO X (some se) tst) : PE X (.Subscript e (.Slice lo hi (some se) p3) pos) (tSl3 (rSl3L X.K) te tl th tst) := by
  refine ⟨fun pins s σ H Q I h => ?_⟩
  refine Subscript_ (thn (he.run pins s σ H _ I h) fun v s1 ⟨x, H1, I1, r1, q1⟩ => ?_)
  refine wpAny_Slice (thn (hl.run pins s1 σ H1 _ I1 q1) fun vl s2 ⟨l, H2, I2, pl, q2⟩ => thn (hh.run pins s2 σ H2 _ I2 q2) fun vu s3 ⟨u, H3, I3, pu, q3⟩ => thn (hst.run pins s3 σ H3 _ I3 q3) fun vs s4 ⟨c, H4, I4, ps, q4⟩ => ?_)
  obtain ⟨a, xs, ex, hx, h0, q⟩ := q4
  subst ex
  cases r1
  have I5 : Inv X pins σ H4 { s4 with heap := s4.heap.push { cls := .type "slice", data := .fields #[vl, vu, vs] } } := I4.kept (t' := s4.toks) fun b ob q => Heap.get?_push_of_some _ q
  obtain ⟨its, r, ht, hz⟩ := I5.list hx
  have hlen := r.length
  show wpAny (model X.prog X.w) X.A (subscriptTail e (.Slice lo hi (some se) p3) (.ref a) (.ref s4.heap.objs.size)) (EP X pins σ Q) X.xe { s4 with heap := s4.heap.push { cls := .type "slice", data := .fields #[vl, vu, vs] } }
  refine tail_any (ops := [.ref a, .ref s4.heap.objs.size]) ht.isList.typeIs (PySem.slot_list_getitem.lookup) ?_ (by with_unfolding_all rfl)
  refine wpAny_getItem_list_slice ht.isList (Heap.IsSliceOf.new _ vl vu vs) pl pu ps h0 ?_ (by rw [List.size_toArray]; omega)
  rw [slicePick_eq _ _ _ _ h0]
  refine ⟨.ref _, _, I5.laid (t' := s4.toks) (o := .lst (slV xs l u c)) (fun b ob q => Heap.get?_push_of_some _ q) (Nat.le_refl _) ?_, rfl, q _ (I5.hok.fresh (Nat.le_refl _))⟩
  exact ⟨Nat.le_trans (slV_le _ _ _ _ h0) hz, _, 0, by simpa using vals_sl r l u c, Heap.get?_push_size _ rfl⟩
theorem pe_sl3T (he : PE X e te) (hl : PO X lo tl) (hh : PO X hi th) (hst : PO X (some se) tst) : PE X (.Subscript e (.Slice lo hi (some se) p3) pos) (tSl3 (rSl3T X.K) te tl th tst) := by
  refine ⟨fun pins s σ H Q I h => ?_⟩
  refine Subscript_ (thn (he.run pins s σ H _ I h) fun v s1 ⟨x, H1, I1, r1, q1⟩ => ?_)
  refine wpAny_Slice (thn (hl.run pins s1 σ H1 _ I1 q1) fun vl s2 ⟨l, H2, I2, pl, q2⟩ => thn (hh.run pins s2 σ H2 _ I2 q2) fun vu s3 ⟨u, H3, I3, pu, q3⟩ => thn (hst.run pins s3 σ H3 _ I3 q3) fun vs s4 ⟨c, H4, I4, ps, q4⟩ => ?_)
  obtain ⟨a, xs, ex, hx, h0, q⟩ := q4
  subst ex
  cases r1
  have I5 : Inv X pins σ H4 { s4 with heap := s4.heap.push { cls := .type "slice", data := .fields #[vl, vu, vs] } } := I4.kept (t' := s4.toks) fun b ob q => Heap.get?_push_of_some _ q
  obtain ⟨its, r, ht, hz⟩ := I5.tuple hx
  have hlen := r.length
  show wpAny (model X.prog X.w) X.A (subscriptTail e (.Slice lo hi (some se) p3) (.ref a) (.ref s4.heap.objs.size)) (EP X pins σ Q) X.xe { s4 with heap := s4.heap.push { cls := .type "slice", data := .fields #[vl, vu, vs] } }
  refine tail_any (ops := [.ref a, .ref s4.heap.objs.size]) ht.typeIs (PyProof.Rows.slot_tuple_getitem.lookup) ?_ (by with_unfolding_all rfl)
  refine getItem_tuple_any ht (Heap.IsSliceOf.new _ vl vu vs) pl pu ps h0 (fun ew => ?_) ?_ (by rw [List.size_toArray]; omega)
  · refine ⟨.ref a, H4, I5, rfl, q _ _ (Same.refl _) ?_⟩
    have e : slV xs l u c = xs := by
      rw [List.size_toArray, ← hlen] at ew
      unfold slV
      rw [ew]
      exact slP_whole xs
    rw [e]
    exact hx
  · refine ⟨.ref _, _, I5.laid (t' := s4.toks) (o := .tup (slV xs l u c)) (fun b ob q => Heap.get?_push_of_some _ q) (Nat.le_refl _) ?_, rfl, q _ _ (same_upd (I5.hok.fresh (Nat.le_refl _))) (SqT.of upd_same)⟩
    exact ⟨Nat.le_trans (slV_le _ _ _ _ h0) hz, _, by simpa using vals_sl r l u c, IsTup.new _ _⟩
end
end Tr

/-! # Slice objects as values; own subscripts. -/
namespace Tr
open PySem PySem.Spec PyProof.Rows L2 HT
section
theorem sk_lk : typeLookup (.type "slice") "__class__" = pure (some (.builtin "object.__class__")) := by rw [typeLookup_type, builtinLookup_eq_fast]; kernel_rfl
theorem sk_ga : Slot "slice" "__getattribute__" "slice.__getattribute__" :=
  .of (owner := "slice") (n := "__getattribute__") (by rw [typeLookup_type, builtinLookup_eq_fast]; kernel_rfl) (by decide +kernel) (by decide +kernel) (by decide +kernel) (by first | exact .inl (by decide +kernel) | exact .inr (by decide +kernel)) (by rw [isSubtype_type]; kernel_rfl)
theorem sk_en : entryFor table "slice.__getattribute__" = some Builtin.«object.__getattribute__» := entryFor_alias (id' := "object.__getattribute__") (by kernel_rfl) (by first | rfl | decide +kernel) (by decide +kernel) (by kernel_rfl)
theorem sk_ar (a b : Value) : argsOk "slice.__getattribute__" ⟨[a, b], []⟩ := by unfold argsOk; kernel_rfl
theorem sk_ow : isSubtype (.type "slice") (.type (".".intercalate ("object.__class__".cutAt '.').dropLast)) = pure true := by rw [F.owner_object_class, isSubtype_type]; kernel_rfl
variable {prog : Program} {w : World} {A : Around} {E : Value → Shared → Prop} {s : Shared} {a : Addr} {o : Obj}
theorem sk_get {R : Result → Shared → Prop} (hT : s.TypeIs (.ref a) "slice") (hq : R (.ok (.ret (.type "slice"))) s) : codeAny (model prog w) A (.call (.builtin "getset_descriptor.__get__") ⟨[.builtin "object.__class__", .ref a, .type "slice"], []⟩) R s := by
  obtain ⟨h, g, d, t, os⟩ := s
  have g1 : (⟨h, g, d, t, os⟩ : Shared).TypeIs (.builtin "object.__class__") "getset_descriptor" := F.typeOf_object_class
  have g2 := sk_ow
  refine codeAny_call_builtin F.slot_gs_get.plain F.entry_gs_get (F.slot_gs_get.check _ _ _ _ _ _ _ _ g1 (F.args_gs_get _ _ _) ?_)
  repeat (any_goals (first | assumption | wp_step))
  refine ⟨Code.quiet_builtin _ (by decide +kernel), codeAny_builtin F.entry_object_class ?_⟩
  repeat (any_goals (first | assumption | wp_step))
theorem sk_cls {Q : Option Value → Shared → Prop} (hT : s.TypeIs (.ref a) "slice") (hq : Q (some (.type "slice")) { s with toks := s.toks + 1 }) : wpAny (model prog w) A (getAttr? (.ref a) "__class__") Q E s := by
  obtain ⟨h, g, d, t, os⟩ := s
  have hT1 : (⟨h, g, d, t + 1, os⟩ : Shared).TypeIs (.ref a) "slice" := hT
  have one : ∀ {tk : Tok} {Q : Fin → Shared → Prop}, Q (.done (.ret (.type "slice"))) ⟨h, g, d, t + 1, os⟩ → ∀ A E, wpAny (model prog w) A (Builtin.«object.__getattribute__» ⟨[.ref a, .str "__class__" tk], []⟩) Q E ⟨h, g, d, t + 1, os⟩ := by
    intro tk Q hq A E
    have g1 := sk_lk
    have g2 := F.typeOf_object_class
    have g3 : (⟨h, g, d, t + 1, os⟩ : Shared).TypeIs (.builtin "object.__class__") "getset_descriptor" := F.typeOf_object_class
    have g4 := F.slot_gs_get.lookup
    have g5 := F.slot_gs_set.lookup
    repeat (any_goals (first | assumption | wp_step))
    refine sk_get hT1 ?_
    repeat (any_goals (first | assumption | wp_step))
  have two : ∀ {tk : Tok} {R : Result → Shared → Prop}, R (.ok (.ret (.type "slice"))) ⟨h, g, d, t + 1, os⟩ → ∀ A, codeAny (model prog w) A (.call (.builtin "slice.__getattribute__") ⟨[.ref a, .str "__class__" tk], []⟩) R ⟨h, g, d, t + 1, os⟩ := fun hq A =>
    codeAny_call_builtin sk_ga.plain sk_en (sk_ga.check _ _ _ _ _ _ _ _ hT1 (sk_ar _ _) (one hq _ _))
  have three : ∀ {tk : Tok} {Q : Value → Shared → Prop}, Q (.type "slice") ⟨h, g, d, t + 1, os⟩ → ∀ A E, wpAny (model prog w) A (getAttrBy (.ref a) (.str "__class__" tk) false) Q E ⟨h, g, d, t + 1, os⟩ := by
    intro tk Q hq A E
    have f2 := sk_ga.lookup
    have f3 := sk_ga.bind (.ref a)
    repeat (any_goals (first | assumption | wp_step))
    refine two ?_ _
    repeat (any_goals (first | assumption | wp_step))
  unfold getAttr? getAttrBy?
  repeat (any_goals (first | assumption | exact three (by assumption) _ _ | with_reducible apply three | wp_step))
end
/-- a slice object -/
def slO (a : Addr) (lo hi st : Option Int) : HO := .ext fun h => ∃ vl vu vs, h.IsSliceOf a vl vu vs ∧ IsPart vl lo ∧ IsPart vu hi ∧ IsPart vs st
section
variable {X : Cx} {pins : List (Addr × Obj)} {σ : L2.St} {H : Hp} {s : Shared}
theorem slO_at {a : Addr} {lo hi st : Option Int} (I : Inv X pins σ H s) (h : H a = some (slO a lo hi st)) : ∃ vl vu vs, s.heap.IsSliceOf a vl vu vs ∧ IsPart vl lo ∧ IsPart vu hi ∧ IsPart vs st :=
  (show ObjOk X.prog X.w H s.heap a (slO a lo hi st) from I.hok a _ h).1
/-- isinstance of a slice object -/
def rIsiSl (K : PySem.W.Frag) : List V → Hp → VK → Prop := fun xs H Q => ∃ (a : Addr) (lo hi st : Option Int) (c : V) (u : Value) (b : Bool), xs = [.ref a, c] ∧ H a = some (slO a lo hi st) ∧ ClsV c u ∧ PySem.W.kitOne K (.type "slice") u = some b ∧ Q (.bl b) H
theorem call_isiSl : CallR X (.builtin "isinstance") (rIsiSl X.K) := by
  intro pins s σ H xs us Q I r h
  obtain ⟨a, lo, hi, st, c, u, b, rfl, ha, k, e, q⟩ := h
  obtain ⟨u1, u2, rfl, r1, r2⟩ := vals2 r
  have e2 := k.eq r2
  subst e2
  cases (show u1 = Value.ref a from r1)
  obtain ⟨vl, vu, vs, ⟨o, ho, hc, hd⟩, _⟩ := slO_at I ha
  exact PySem.W.kia_one (K := X.K) (t := .type "slice") (H := PySem.W.KitAt a "slice") (PySem.W.kitx_of PySem.W.kitAt_ty fun p k => sk_cls p k) I.kIn ⟨o, ho, hc⟩ e (fun z => nomatch z) fun tk => ⟨.bl b, H, I.tok tk, rfl, q⟩
/-- t[k], k a slice object -/
def rIxTS (K : PySem.W.Frag) : R2 := fun x y H Q => ∃ (p sl : Addr) (lo hi st : Option Int) (xs : List V), x = .ref p ∧ y = .ref sl ∧ SqT K H p xs ∧ H sl = some (slO sl lo hi st) ∧ st ≠ some 0 ∧ ∀ q H', Same H H' → SqT K H' q (slV xs lo hi st) → Q (.ref q) H'
theorem ix_tupS : IxR X (rIxTS X.K) := by
  intro value slice pins s σ H x y v u Q I rx ry h hs
  obtain ⟨p, sl, lo, hi, st, xs, rfl, rfl, hq, hsl, h0, q⟩ := h
  cases rx
  cases ry
  obtain ⟨its, r, pl, hz⟩ := I.tuple hq
  have hlen := r.length
  obtain ⟨vl, vu, vs, hS, p1, p2, p3⟩ := slO_at I hsl
  refine tail_any pl.typeIs slot_tuple_getitem.lookup ?_ hs
  refine getItem_tuple_any pl hS p1 p2 p3 h0 (fun ew => ?_) ?_ (by rw [List.size_toArray]; omega)
  · refine ⟨.ref p, H, I, rfl, q _ _ (Same.refl _) ?_⟩
    have e : slV xs lo hi st = xs := by
      rw [List.size_toArray, ← hlen] at ew
      unfold slV
      rw [ew]
      exact slP_whole xs
    rw [e]
    exact hq
  · refine ⟨.ref _, _, I.laid (t' := s.toks) (o := .tup (slV xs lo hi st)) (fun b ob q => Heap.get?_push_of_some _ q) (Nat.le_refl _) ?_, rfl, q _ _ (same_upd (I.hok.fresh (Nat.le_refl _))) (SqT.of upd_same)⟩
    exact ⟨Nat.le_trans (slV_le _ _ _ _ h0) hz, _, by simpa using vals_sl r lo hi st, IsTup.new _ _⟩
/-- o[lo:hi] goes by getItem itself -/
theorem sub_two {prog : Program} {w : World} {A : Around} {E : Value → Shared → Prop} {s : Shared} {K : PySem.W.Frag} {x C L f : Addr} {h₀ : Heap} {m : Str → Option Value} {ox : Obj} {od : Option Obj} {value slice : Expr} {i : Value} {ops : List Value} {Q : Value → Shared → Prop} (FF : Fr h₀ L s.heap m) (X₀ : K.In h₀) (I : PySem.W.InstAt s.heap x ox C od) (hq : PySem.W.noSeq K C = true)
    (hs : PySem.W.findIn K (.ref C) "__getitem__" = some (some (.ref f))) (hf : PySem.W.fnIn K f = true) (hfn : PySem.W.isFn K (.ref f) = true) (h : wpAny (model prog w) A (call (.ref f) [.ref x, i]) Q E s) (hsl : subscripted slice true (.ref x) i = operate ops (getItem (.ref x) i)) :
    wpAny (model prog w) A (subscriptTail value slice (.ref x) i) Q E s := by
  have X := X₀.keeps FF.keep
  have go := PySem.W.getItem_K FF X₀ I hq hs hfn h
  unfold PySem.W.fnIn at hf
  split at hf
  · rename_i e
    unfold subscriptTail getitemInPython
    refine wpAny_bind (wpAny_bind (wpAny_bind (I.type.here ((PySem.W.looks_findIn X hs).here ?_))))
    dsimp only
    refine wpAny_bind (wpAny_load (X _ _ e) (wpAny_pure ?_))
    dsimp only
    rw [hsl]
    refine wpAny_bind (wpAny_operateT (wpAny_mono go (fun v s' z => ?_) fun _ _ z => z))
    show wpAny (model prog w) A (letTemporaryGo value (.ref x) v >>= fun _ => pure v) Q E s'
    exact wpAny_bind (wpAny_letTemporaryGo (wpAny_pure z))
  · cases hf
/-- what an own subscript leans on -/
structure GetO (K : PySem.W.Frag) (C : Addr) : Prop where
  nq : PySem.W.noSeq K C = true
  fi : ∀ f : Addr, PySem.W.findIn K (.ref C) "__getitem__" = some (some (.ref f)) → PySem.W.fnIn K f = true
def rGetO (C : Addr) (sp : Sp) (E : XK) : R2 := fun x y H Q => ∃ a dx fs, x = .ref a ∧ H a = some (.ins C dx fs) ∧ sp [x, y] H Q E
theorem pe_getO {C : Addr} {sp : Sp} {E : XK} {k j : Nat} {ea eb : Expr} {ta tb : TE} {pos : Pos} (c : Met X.prog X.w X.K X.mg X.base k C "__getitem__" sp []) (g : GetO X.K C) (hr : Room j X.A) (hk : k + 1 ≤ j) (hx : Passes (L2.CX X.prog X.w) X E) (he : PE X ea ta) (hb : PE X eb tb)
    (hsl : ∀ v i, subscripted eb true v i = runValue (.builtin "lifetime.subscript" ⟨[v, i], []⟩) := by intros; with_unfolding_all rfl) : PE X (.Subscript ea eb pos) (tOp (rGetO C sp E) ta tb) := by
  obtain ⟨f, fd, ps, ds, hc, hm, F, b, d⟩ := c.ex
  cases d
  refine ⟨fun pins s σ H Q I h => ?_⟩
  refine Subscript_ (binT he hb I h fun v u s2 x y H2 I2 rx ry q => ?_)
  obtain ⟨a, dx, fs, rfl, ha, h⟩ := q
  cases rx
  obtain ⟨mA, J, _⟩ := ins_get I2.hok ha
  obtain ⟨od, J, _⟩ := J.look
  obtain ⟨m, hF⟩ := I2.fr
  refine PySem.W.sub_K hF I2.ok.mod.kin J hm.at_ (g.fi _ hm.at_) hm.fn ?_ (hsl _ _)
  exact run_at (A := X.A.in1) F (hr.mono hk).in1 rfl b hx I2 (us := [.ref a, u]) (vs := [.ref a, y]) (.cons rfl (.cons ry .nil)) h
end
section
variable {X : Cx} {e : Expr} {te : TE} {lo hi st : Option Expr} {tl th tst : TO} {pos p3 : Pos} {C : Addr} {sp : Sp} {E : XK}
/-- o[lo:hi:st], o an instance with its own __getitem__ -/
def tGetS (C : Addr) (sp : Sp) (E : XK) (te : TE) (tl th tst : TO) : TE := fun σ H Q => te σ H fun x H1 => tl σ H1 fun l H2 => th σ H2 fun u H3 => tst σ H3 fun c H4 => ∃ a dx fs, x = .ref a ∧ H4 a = some (.ins C dx fs) ∧ ∀ q, H4 q = none → sp [.ref a, .ref q] (upd H4 q (slO q l u c)) Q E
theorem pe_getS {k j : Nat} (c : Met X.prog X.w X.K X.mg X.base k C "__getitem__" sp []) (g : GetO X.K C) (hr : Room j X.A) (hk : k + 1 ≤ j) (hx : Passes (L2.CX X.prog X.w) X E) (he : PE X e te) (hl : PO X lo tl) (hh : PO X hi th) (hst : PO X st tst)
    (hsl : ∀ v i, subscripted (.Slice lo hi st p3) true v i = runValue (.builtin "lifetime.subscript" ⟨[v, i], []⟩) := by intros; with_unfolding_all rfl) :
    PE X (.Subscript e (.Slice lo hi st p3) pos) (tGetS C sp E te tl th tst) := by
  obtain ⟨f, fd, ps, ds, hc, hm, F, b, d⟩ := c.ex
  cases d
  refine ⟨fun pins s σ H Q I h => ?_⟩
  refine Subscript_ (thn (he.run pins s σ H _ I h) fun v s1 ⟨x, H1, I1, r1, q1⟩ => ?_)
  refine wpAny_Slice (thn (hl.run pins s1 σ H1 _ I1 q1) fun vl s2 ⟨l, H2, I2, pl, q2⟩ => thn (hh.run pins s2 σ H2 _ I2 q2) fun vu s3 ⟨u, H3, I3, pu, q3⟩ => thn (hst.run pins s3 σ H3 _ I3 q3) fun vs s4 ⟨c, H4, I4, ps', q4⟩ => ?_)
  obtain ⟨a, dx, fs, ex, ha, q⟩ := q4
  subst ex
  cases r1
  have free := I4.hok.fresh (Nat.le_refl s4.heap.objs.size)
  have hS : (s4.heap.push { cls := .type "slice", data := .fields #[vl, vu, vs] }).IsSliceOf s4.heap.objs.size vl vu vs := Heap.IsSliceOf.new _ vl vu vs
  have I5 : Inv X pins σ (upd H4 s4.heap.objs.size (slO s4.heap.objs.size l u c)) { s4 with heap := s4.heap.push { cls := .type "slice", data := .fields #[vl, vu, vs] } } :=
    I4.laid (t' := s4.toks) (fun b ob q => Heap.get?_push_of_some _ q) (Nat.le_refl _) ⟨⟨vl, vu, vs, hS, pl, pu, ps'⟩, ⟨_, Heap.get?_push_size _ rfl⟩, fun h1 h2 ⟨a1, a2, a3, ⟨o, b1, b2⟩, c1⟩ k => ⟨a1, a2, a3, ⟨o, k o b1, b2⟩, c1⟩⟩
  have ha5 : upd H4 s4.heap.objs.size (slO s4.heap.objs.size l u c) a = some (.ins C dx fs) := by rw [upd_ne (ne_of_none ha free)]; exact ha
  obtain ⟨mA, J, _⟩ := ins_get I5.hok ha5
  obtain ⟨od, J, _⟩ := J.look
  obtain ⟨m, hF⟩ := I5.fr
  show wpAny (model X.prog X.w) X.A (subscriptTail e (.Slice lo hi st p3) (.ref a) (.ref s4.heap.objs.size)) (EP X pins σ Q) X.xe { s4 with heap := s4.heap.push { cls := .type "slice", data := .fields #[vl, vu, vs] } }
  refine PySem.W.sub_K hF I5.ok.mod.kin J hm.at_ (g.fi _ hm.at_) hm.fn ?_ (hsl _ _)
  exact run_at (A := X.A.in1) F (hr.mono hk).in1 rfl b hx I5 (us := [.ref a, .ref s4.heap.objs.size]) (vs := [.ref a, .ref s4.heap.objs.size]) (.cons rfl (.cons rfl .nil)) (q _ free)
theorem pe_getS2 {k j : Nat} (c : Met X.prog X.w X.K X.mg X.base k C "__getitem__" sp []) (g : GetO X.K C) (hr : Room j X.A) (hk : k ≤ j) (hx : Passes (L2.CX X.prog X.w) X E) (he : PE X e te) (hl : PO X lo tl) (hh : PO X hi th) :
    PE X (.Subscript e (.Slice lo hi none p3) pos) (tGetS C sp E te tl th tNoPart) := by
  obtain ⟨f, fd, ps, ds, hc, hm, F, b, d⟩ := c.ex
  cases d
  refine ⟨fun pins s σ H Q I h => ?_⟩
  refine Subscript_ (thn (he.run pins s σ H _ I h) fun v s1 ⟨x, H1, I1, r1, q1⟩ => ?_)
  refine wpAny_Slice (thn (hl.run pins s1 σ H1 _ I1 q1) fun vl s2 ⟨l, H2, I2, pl, q2⟩ => thn (hh.run pins s2 σ H2 _ I2 q2) fun vu s3 ⟨u, H3, I3, pu, q3⟩ => thn (po_none.run pins s3 σ H3 _ I3 q3) fun vs s4 ⟨c, H4, I4, ps', q4⟩ => ?_)
  obtain ⟨a, dx, fs, ex, ha, q⟩ := q4
  subst ex
  cases r1
  have free := I4.hok.fresh (Nat.le_refl s4.heap.objs.size)
  have hS : (s4.heap.push { cls := .type "slice", data := .fields #[vl, vu, vs] }).IsSliceOf s4.heap.objs.size vl vu vs := Heap.IsSliceOf.new _ vl vu vs
  have I5 : Inv X pins σ (upd H4 s4.heap.objs.size (slO s4.heap.objs.size l u c)) { s4 with heap := s4.heap.push { cls := .type "slice", data := .fields #[vl, vu, vs] } } :=
    I4.laid (t' := s4.toks) (fun b ob q => Heap.get?_push_of_some _ q) (Nat.le_refl _) ⟨⟨vl, vu, vs, hS, pl, pu, ps'⟩, ⟨_, Heap.get?_push_size _ rfl⟩, fun h1 h2 ⟨a1, a2, a3, ⟨o, b1, b2⟩, c1⟩ k => ⟨a1, a2, a3, ⟨o, k o b1, b2⟩, c1⟩⟩
  have ha5 : upd H4 s4.heap.objs.size (slO s4.heap.objs.size l u c) a = some (.ins C dx fs) := by rw [upd_ne (ne_of_none ha free)]; exact ha
  obtain ⟨mA, J, _⟩ := ins_get I5.hok ha5
  obtain ⟨od, J, _⟩ := J.look
  obtain ⟨m, hF⟩ := I5.fr
  show wpAny (model X.prog X.w) X.A (subscriptTail e (.Slice lo hi none p3) (.ref a) (.ref s4.heap.objs.size)) (EP X pins σ Q) X.xe { s4 with heap := s4.heap.push { cls := .type "slice", data := .fields #[vl, vu, vs] } }
  refine sub_two (ops := [.ref s4.heap.objs.size, .ref a]) hF I5.ok.mod.kin J g.nq hm.at_ (g.fi _ hm.at_) hm.fn ?_ (by with_unfolding_all rfl)
  exact run_at (A := X.A) F (hr.mono hk) rfl b hx I5 (us := [.ref a, .ref s4.heap.objs.size]) (vs := [.ref a, .ref s4.heap.objs.size]) (.cons rfl (.cons rfl .nil)) (q _ free)
end
def getOB (x : Str) (K : PySem.W.Frag) : Bool := PySem.W.noSeq K (He.ga K x) && match PySem.W.findIn K (.ref (He.ga K x)) "__getitem__" with
  | some (some (.ref f)) => PySem.W.fnIn K f
  | _ => true
theorem getOB_ok {x : Str} {K : PySem.W.Frag} (h : getOB x K = true) : GetO K (He.ga K x) := by
  obtain ⟨h1, h2⟩ := He.ba h
  refine ⟨h1, fun f e => ?_⟩
  rw [e] at h2
  exact h2
end Tr

/-! # Exceptions of the program's own, whose __init__ says super().__init__(text) first. -/
namespace Tr
open PySem PySem.Spec PyProof.Rows L2
/-- the main module: its file; «super» is not its own name -/
class PMain (P : Program) : Prop where
  file : P.main.file = ("/claim/cut.py" : Str)
  sup : (P.main.scope.names.lookup ("super" : Str)).isSome = false

section
variable {X : Cx} {pins : List (Addr × Obj)} {σ : L2.St} {H : Hp} {s : Shared} {body : List Stmt} {a C f cda cc : Addr} {z : Str} {kd : Nat} {p0 p1 p2 p3 p4 p5 : Pos} {fd : FuncData} {ar : Arg} {vs : Array Value} {tf : Tok} {oc ccl cl : Value} {od cdd cld : Option Addr} {osl ccs csl : Array (Option Value)}
  {Q : Flow → Shared → Prop} {E' : Value → Shared → Prop}
theorem sup_call {u : Addr} {rest : List Value} {Q : Value → Shared → Prop} {A : Around} (T : OexC X.K C) (I : Inv X pins σ H s) (e : H a = some (exo a C none)) (hu : s.heap.get? u = some (PySem.W.kxs_mw "ValueError.__init__" a)) (hz : rest.length ≤ sizeLine)
    (hq : ∀ s', Inv X pins σ H s' → Q .none s') : wpAny (model X.prog X.w) A (call (.ref u) rest) Q E' s := by
  obtain ⟨nm, q, N, bs, bm, sn, sub, ab, col, dd, k0, k1, k2, k3, k5, hC, hbm⟩ := T.cls
  obtain ⟨t1, he⟩ := exo_at I.hok e
  have hC' := I.kIn _ _ hC
  obtain ⟨hp, g, d, tk, os⟩ := s
  refine wpAny_call (codeAny_of_tree ?_)
  show wpAny _ A.in1 (callAny (.ref u) ⟨rest, []⟩) _ _ _
  simp only [callAny]
  refine wpAny_bind (wpAny_load hu ?_)
  simp only [PySem.W.kxs_mw, show (Value.type "method-wrapper" == Value.type "method" || Value.type "method-wrapper" == Value.type "builtin_function_or_method" || Value.type "method-wrapper" == Value.type "method-wrapper") = true by decide, if_true]
  refine PySem.W.KFB.if_so (by decide) ?_
  refine wpAny_bind (PySem.W.check_bound_init F.excBase_ValueError.toExcCallFacts hC' he rfl ?_)
  refine wpAny_bind (wpAny_pure (wpAny_pure ?_))
  refine ⟨plainId_quiet F.excBase_ValueError.init.plain _, codeAny_builtin F.excBase_ValueError.initEntry ?_⟩
  refine PySem.W.exc_init_tree (cls := .ref C) (t0 := t1) (dv := none) (c2 := .none) (c3 := .none) (b4 := .bool false) he hz fun h' k hx _ => ?_
  have J := I.write (t' := tk) (x := a) (e := a) (o := exo a C none) (by rw [e]; exact True.intro) (.inl rfl) k ⟨_, hx⟩ (exo_ok hx)
  have eu : upd H a (exo a C none) = H := by
    funext b
    by_cases hb : b = a
    · rw [hb, upd_same, e]
    · rw [upd_ne hb]
  rw [eu] at J
  exact hq _ J

theorem sup_ok (I : Inv X pins σ H s) [PM : PMain X.prog] (T : OexC X.K C) (e : H a = some (exo a C none)) (h0 : σ[0]? = some (some (.ref a))) (hN0 : X.N[0]? = some ("self" : Str)) (hself : X.env.scope.names.lookup ("self" : Str) = some .local)
    (hfu : X.env.func = some f) (lk : X.K.lookup f = some ⟨oc, od, .func fd, osl⟩) (hp : (fd.params.posonlyargs ++ fd.params.args).head? = some ar) (har : ar.arg = ("self" : Str))
    (hco : X.env.code = .ref cda) (hcode : X.K.lookup cda = some ⟨ccl, cdd, .fields vs, ccs⟩) (hvs : vs[2]? = some (.str "/claim/cut.py" tf))
    (hks : X.env.scope.names.lookup ("super" : Str) = some .globalImplicit) (hkc : X.env.scope.names.lookup ("__class__" : Str) = some .free) (hcl : X.env.cells.lookup ("__class__" : Str) = some cc) (hcell : X.K.lookup cc = some ⟨cl, cld, .cell (some (.ref C)), csl⟩)
    (hsuper : X.mg "super" = none) (ho : PySem.W.nsIn X.K cStatics "thirdparty.any" = some none) (hm : PySem.W.ks_superIn X.K C C "__init__" = some (some (.builtin "ValueError.__init__")))
    (hsub : PySem.W.mroIn X.K C (.ref C) = some true) (hB : PySem.W.subIn X.K (.ref C) (.type "ValueError") = some true)
    (hi : interactive X.env = false) (hs : swapsWith (.Call (.Attribute (.Call (.Name "super" p0) [] [] p1) "__init__" p2) [.Constant (.str z) kd p5] [] p3) none p4.line X.env = pure false)
    {pl : Sem Bool} (hev : eval (.Call (.Attribute (.Call (.Name "super" p0) [] [] p1) "__init__" p2) [.Constant (.str z) kd p5] [] p3) X.env = (do
      let ov ← attributeBase (.Call (.Name "super" p0) [] [] p1) "__init__" X.env (eval (.Call (.Name "super" p0) [] [] p1) X.env)
      standAt p2.atName
      let (f, first) ← holding [ov] (getMethod ov "__init__" pl)
      callWith p3 f first (backTo p3 (starEach [.Constant (.str z) kd p5] X.env)) []))
    (hq : ∀ s', Inv X pins σ H s' → Q .next s') :
    PySem.wpAt (model X.prog X.w) X.A (.func body X.env) (exec (.Expr (.Call (.Attribute (.Call (.Name "super" p0) [] [] p1) "__init__" p2) [.Constant (.str z) kd p5] [] p3) p4) X.env) Q E' s := by
  refine ks_wpAt_Expr_any ?_ hi hs
  refine ks_wpAt_MethodCall (pl := pl) ?_ hev
  refine ks_wpAt_super_base (attr := "__init__") (body := body) hks hkc (by decide) hfu (I.kIn _ _ lk) rfl hp hco (I.kIn _ _ hcode) rfl hvs (by rw [PM.file]; decide) PM.sup ?_
  obtain ⟨mb, h1, h2⟩ := I.mod.blt
  refine PySem.W.ks_loadName_global I.ok.kind hks (Calls.loadGlobal_builtin (by rw [I.ok.glob]; exact I.mod.glob.keeps I.bk) hsuper (by rw [I.ok.blt]; exact h1.keeps I.bk) ((h2 "super" (by decide)).trans PyProof.Rows.Boot.super) ⟨rfl, ?_⟩)
  refine wpAny_loadName_free I.ok.kind hkc hcl ⟨_, I.kIn _ _ hcell, rfl⟩ ?_
  obtain ⟨m, hn, hl⟩ := I.loc
  obtain ⟨u, r, l⟩ := hl 0 _ (.ref a) hN0 h0 (.inl hself)
  obtain rfl : u = Value.ref a := r
  have hv : m ("self" : Str) = some (.ref a) := by
    rcases l with ⟨_, z⟩ | ⟨z, _⟩
    · exact z
    · have z' : X.env.scope.names.lookup ("self" : Str) = some .cell ∨ X.env.scope.names.lookup ("self" : Str) = some .free := z
      rw [hself] at z'
      rcases z' with z' | z' <;> cases z'
  rw [har]
  refine wpAny_loadName_local I.ok.kind hself hn hv ?_
  obtain ⟨nm, q, N, bs, bm, sn, sub, ab, col, dd, k0, k1, k2, k3, k5, hC, hbm⟩ := T.cls
  have hcd : PySem.W.clsIn X.K C = some { name := nm, bases := bs, mro := .ref C :: bm, ns := N, qualname := q, hasDict := true, slotNames := sn, subclasses := sub, abstract := ab, collection := col, hasDel := false } := by unfold PySem.W.clsIn; rw [hC] <;> rfl
  have hC' := I.kIn _ _ hC
  obtain ⟨t1, he⟩ := exo_at I.hok e
  obtain ⟨hp0, g, d, tk, os⟩ := s
  refine ks_wpAny_isType_cls hC' rfl ⟨rfl, ?_⟩
  refine ks_wpAny_call_super hC' rfl he rfl (fun c z => by cases z) (PySem.W.looks_mroIn I.kIn hsub) (fun h1 es k => ?_)
  have I1 : Inv X pins σ H ⟨h1, g, d, tk, os⟩ := I.kept (t' := tk) k
  obtain ⟨t2, he1⟩ := exo_at I1.hok e
  have hxC : a ≠ C := fun y => by
    have hC1 := I1.kIn _ _ hC
    rw [← y] at hC1
    have w := hC1.symm.trans he1
    cases w
  unfold PySem.W.ks_superIn at hm
  rw [hcd] at hm
  have IA : PySem.W.InstAt h1 a { cls := .ref C, dict := none, data := .fields #[.ref t2, .none, .none, .none, .bool false, .none] } C none := ⟨he1, rfl, rfl, trivial⟩
  refine PySem.W.kxs_getMethod PySem.W.kxs_ValueError es (PySem.W.looks_opaque I1.kIn ho) (l₀ := .ref C :: bm) (fun A Q E s k q => wpAny_bind ((PySem.W.looks_clsIn I1.kIn hcd) A _ E s k (wpAny_pure q))) rfl I1.kIn hm (IA.type.andThen (PySem.W.looks_subIn I1.kIn hB)) hxC (by decide) ?_
  have I2 : Inv X pins σ H ⟨h1.push (PySem.W.kxs_mw "ValueError.__init__" a), g, d, tk + 1, os⟩ := I1.kept (t' := tk + 1) fun b o e => Heap.get?_push_of_some _ e
  have hu : (h1.push (PySem.W.kxs_mw "ValueError.__init__" a)).get? h1.objs.size = some (PySem.W.kxs_mw "ValueError.__init__" a) := Heap.get?_push_at rfl rfl
  refine PySem.W.kxs_callWith (i := "ValueError.__init__") (x := a) (by rfl) ?_
  have est : starEach [Expr.Constant (.str z) kd p5] X.env = (false, eval (.Constant (.str z) kd p5) X.env) :: starEach [] X.env := by rfl
  rw [est]
  refine Calls.evalArgs_plain ?_
  show wpAny _ _ (spliced ((false, eval (.Constant (.str z) kd p5) X.env) :: [])) _ _ _
  refine Calls.spliced_cons (Calls.Constant_str (Calls.spliced_nil ⟨hu, ?_⟩))
  exact sup_call T (I2.tok _) e hu (by rw [sizeLine_eq]; exact (by decide : 1 ≤ 16777216)) hq
end
abbrev exPs (fs : List Str) : List Str := "self" :: fs
abbrev exNs (fs : List Str) : List Str := exPs fs ++ [("__class__" : Str)]
abbrev exF (qual : Str) (st : Stmt) (cc cda : Addr) : NdefX.NF := ⟨"__init__", qual, defArgs st, defBody st, defScope st, [("__class__", cc)], cda⟩
/-- what the top has left of an own exception's class: its __init__ (a def with the cell of __class__), its fields' names -/
structure Exn (K : PySem.W.Frag) (mg : Str → Option Value) (x : Str) (C : Addr) (qual : Str) (st : Stmt) (fs : List Str) : Prop where
  oex : OexC K C
  glo : mg x = some (.ref C)
  sup : mg "super" = none
  fn : ∃ (f cc cda : Addr) (kV doc pm ct oc ccl cl : Value) (an od cdd cld : Option Addr) (osl ccs csl : Array (Option Value)) (vs : Array Value) (tf : Tok), PySem.W.findIn K (.ref C) "__init__" = some (some (.ref f)) ∧ PySem.W.typeIn K (.ref f) = some (.type "function") ∧
    K.lookup f = some ⟨oc, od, .func (PySem.W.fnX "__init__" qual (defArgs st) (defBody st) (defScope st) [("__class__", cc)] .none kV doc pm an (.ref cda) ct), osl⟩ ∧ PySem.W.codeIn K (.ref cda) qual = true ∧
    K.lookup cda = some ⟨ccl, cdd, .fields vs, ccs⟩ ∧ vs[2]? = some (.str "/claim/cut.py" tf) ∧ K.lookup cc = some ⟨cl, cld, .cell (some (.ref C)), csl⟩
  any : PySem.W.nsIn K cStatics "thirdparty.any" = some none
  up : PySem.W.ks_superIn K C C "__init__" = some (some (.builtin "ValueError.__init__"))
  sub : PySem.W.mroIn K C (.ref C) = some true
  ve : PySem.W.subIn K (.ref C) (.type "ValueError") = some true
  no : ∀ f ∈ fs, PySem.W.findIn K (.ref C) f = some none
  xf : XfC K C
/-- an own exception that may be made: sp its __init__ -/
structure Exm (P : Program) (w : World) (K : PySem.W.Frag) (mg : Str → Option Value) (base : Heap) (k : Nat) (x : Str) (C : Addr) (sp : Sp) : Prop where
  ex : ∃ (f : Addr) (fd : FuncData) (ps : List Str), OexC K C ∧ mg x = some (.ref C) ∧ PySem.W.findIn K (.ref C) "__init__" = some (some (.ref f)) ∧ PySem.W.typeIn K (.ref f) = some (.type "function") ∧ FnOk P w K mg base (L2.CX P w) k f fd ps sp ∧ Binds K fd ps []
theorem Exm.mono {P : Program} {w : World} {K : PySem.W.Frag} {mg : Str → Option Value} {base : Heap} {j k : Nat} {x : Str} {C : Addr} {sp : Sp} (c : Exm P w K mg base j x C sp) (h : j ≤ k) : Exm P w K mg base k x C sp :=
  let ⟨f, fd, ps, a, b, d, e, F, r⟩ := c.ex
  ⟨f, fd, ps, a, b, d, e, F.mono h, r⟩

section
variable {P : Program} [PM : PMain P] {w : World} {K : PySem.W.Frag} {mg : Str → Option Value} {base : Heap}
theorem exn_fn {x qual : Str} {C : Addr} {st : Stmt} {fs : List Str} {rest : List Stmt} {k : Nat} {sp : Sp} {ar : Arg} {z : Str} {kd : Nat} {p0 p1 p2 p3 p4 p5 : Pos} (D : Exn K mg x C qual st fs) (S : NdefX.NScope (exNs fs) (exPs fs) ["__class__"] (defScope st))
    (hbody : defBody st = .Expr (.Call (.Attribute (.Call (.Name "super" p0) [] [] p1) "__init__" p2) [.Constant (.str z) kd p5] [] p3) p4 :: rest)
    (hp : ((defArgs st).posonlyargs ++ (defArgs st).args).head? = some ar) (har : ar.arg = ("self" : Str)) (hks : (defScope st).names.lookup ("super" : Str) = some .globalImplicit)
    (hb : ∀ (kV doc pm : Value) (an : Option Addr) (cdv ct : Value) (cc : Addr) (us : List Value), us.length = (exPs fs).length → bindArgs (PySem.W.fnX "__init__" qual (defArgs st) (defBody st) (defScope st) [("__class__", cc)] .none kV doc pm an cdv ct) ⟨us, []⟩ = pure ((exPs fs).zip us))
    (hi : ∀ cc cda f L, interactive (NdefX.envF (exF qual st cc cda) f L) = false)
    (hev : ∀ cc cda f L, ∃ pl : Sem Bool, eval (.Call (.Attribute (.Call (.Name "super" p0) [] [] p1) "__init__" p2) [.Constant (.str z) kd p5] [] p3) (NdefX.envF (exF qual st cc cda) f L) = (do
      let ov ← attributeBase (.Call (.Name "super" p0) [] [] p1) "__init__" (NdefX.envF (exF qual st cc cda) f L) (eval (.Call (.Name "super" p0) [] [] p1) (NdefX.envF (exF qual st cc cda) f L))
      standAt p2.atName
      let (g, first) ← holding [ov] (getMethod ov "__init__" pl)
      callWith p3 g first (backTo p3 (starEach [.Constant (.str z) kd p5] (NdefX.envF (exF qual st cc cda) f L))) []))
    (len : ∀ vs H Q E, sp vs H Q E → ∃ a ws, vs = .ref a :: ws ∧ ws.length = fs.length ∧ H a = some (exo a C none))
    (hr : ∀ (cc cda f : Addr) (A : Around) (outer : List Env) (s : Shared) (H : Hp) (vs : List V) (Q : VK) (E : XK), sp vs H Q E →
      ∃ t, PSs (NdefX.ncx (L2.CX P w) P w K mg base (exNs fs) (exF qual st cc cda) f A outer s H E) rest t ∧ t { nx := fun _ H' => Q .non H', rt := Q } (NdefX.startF (exNs fs) vs [none]) H) : Exm P w K mg base (k + 1) x C sp := by
  obtain ⟨f, cc, cda, kV, doc, pm, ct, oc, ccl, cl, an, od, cdd, cld, osl, ccs, csl, cvs, tf, iC, tI, lk, hcd, hcode, hvs, hcell⟩ := D.fn
  refine ⟨f, PySem.W.fnX "__init__" qual (defArgs st) (defBody st) (defScope st) [("__class__", cc)] .none kV doc pm an (.ref cda) ct, exPs fs, D.oex, D.glo, iC, tI, ⟨fun vs H Q E h => ?_, fun A outer s H args us vs Q E hr0 e0 hbi r hsp => ?_⟩, Binds.all (hb kV doc pm an _ ct cc)⟩
  · obtain ⟨a, ws, rfl, h2, _⟩ := len _ _ _ _ h
    rw [List.length_cons, List.length_cons, h2]
  obtain ⟨a, ws, rfl, hwl, hea⟩ := len _ _ _ _ hsp
  have hl : (V.ref a :: ws).length = (exPs fs).length := by rw [List.length_cons, List.length_cons, hwl]
  have KX : K.In s.heap := e0.mod.kin.keeps fun b o e => (e0.bs b o e).1
  have lim : s.heap.NoLimit := e0.mod.nolimit.keeps fun b o e => (e0.bs b o e).1
  have hCn : H cc = none := (e0.bs cc _ (e0.mod.kin _ _ hcell)).2
  refine ks_codeAny_call_defAt (body := defBody st) (binds := (exPs fs).zip us) hr0.depth (KX _ _ lk) rfl lim (PySem.W.codeRec_of KX hcd) rfl hbi S.nocell (fun ⟨n, _⟩ hy => S.par n (List.of_mem_zip hy).1) (fun h₁ hns kp => ?_) S.co S.gen S.kind
  have CA : NdefX.CellsAt [("__class__", cc)] ["__class__"] [none] s.heap H := by
    have hx : ∀ (y : Str) (c : Addr), [(("__class__" : Str), cc)].lookup y = some c → c = cc := fun y c e => by
      simp only [List.lookup] at e
      split at e
      · exact (Option.some.inj e).symm
      · cases e
    refine ⟨rfl, fun y c e => ?_, fun x y c e1 e2 => ?_, fun i y e => ?_⟩
    · obtain rfl := hx y c e
      exact ⟨hCn, _, _, KX _ _ hcell, rfl⟩
    · have q : ∀ (y : Str) (c : Addr), [(("__class__" : Str), cc)].lookup y = some c → y = "__class__" := fun y c e => by
        simp only [List.lookup] at e
        split at e
        · rename_i hb
          exact eq_of_beq hb
        · cases e
      rw [q x c e1, q y c e2]
    · cases i with
      | zero =>
        obtain rfl := Option.some.inj (show some (("__class__" : Str)) = some y from e)
        refine ⟨cc, by rfl, fun v hv => ?_⟩
        have hv : some (none : Option V) = some (some v) := hv
        cases hv
      | succ i => cases (show (none : Option Str) = some y from e)
  have I := NdefX.inv_startN (CX := L2.CX P w) (E := E) (f := f) (tk := s.toks + ((exPs fs).zip us).length) (F := exF qual st cc cda) S hr0.hd e0 hl r CA hns kp
  obtain ⟨t, ht, hq⟩ := hr cc cda f A outer s H _ Q E hsp
  have fin : ∀ {σ' : L2.St} {H' : Hp} {v : V} {u : Value} {s' : Shared}, Inv (NdefX.ncx (L2.CX P w) P w K mg base (exNs fs) (exF qual st cc cda) f A outer s H E) [] σ' H' s' → L2.RelV v u → Q v H' → CE outer P w H s Q u s' :=
    fun {σ' H' v u s'} J rv q => ⟨v, H', J.os, J.bare, J.base, J.hok, rv, q⟩
  have key : ∀ b, b = defBody st → PySem.wpAt (model P w) (A.deeper (NdefX.envF (exF qual st cc cda) f s.heap.objs.size)) (.func b (NdefX.envF (exF qual st cc cda) f s.heap.objs.size)) (execs b (NdefX.envF (exF qual st cc cda) f s.heap.objs.size))
      (fun fl s' => CR (L2.CX P w) outer P w H s Q E (.ok (.ret (match fl with | .ret v => v | _ => .none))) s') (NdefX.ncx (L2.CX P w) P w K mg base (exNs fs) (exF qual st cc cda) f A outer s H E).xe { s with heap := h₁, toks := s.toks + ((exPs fs).zip us).length } := by
    intro b hbb
    rw [hbody] at hbb
    subst hbb
    refine ks_wpAt_execs_cons ?_
    obtain ⟨pl, hpl⟩ := hev cc cda f s.heap.objs.size
    refine sup_ok (PM := PM) (X := NdefX.ncx (L2.CX P w) P w K mg base (exNs fs) (exF qual st cc cda) f A outer s H E) (a := a) (C := C) (f := f) (cda := cda) (cc := cc) (ar := ar) I D.oex hea (by rfl) (by rfl) (S.par _ (List.mem_cons_self ..)) rfl lk hp har rfl hcode hvs hks (S.frk _ (List.mem_cons_self ..)) rfl hcell D.sup D.any D.up D.sub D.ve (hi ..) (by rfl) hpl fun s' J => ?_
    refine wpAt_of_wpAny (wpAny_mono (ht.run [] _ _ H _ J hq) (fun fl s' hs => ?_) fun e s' hs => hs)
    cases fl with
    | ret u =>
      obtain ⟨v, σ', H', J, rv, q⟩ := hs
      exact fin J rv q
    | next =>
      obtain ⟨σ', H', J, q⟩ := hs
      exact fin (v := V.non) (u := Value.none) J rfl q
    | brk =>
      obtain ⟨_, _, _, q⟩ := hs
      exact False.elim q
    | cont =>
      obtain ⟨_, _, _, q⟩ := hs
      exact False.elim q
  exact key _ rfl
end
/-- what the text has of such an __init__ -/
structure ExS (qual : Str) (st : Stmt) (fs : List Str) (rest : List Stmt) : Prop where
  S : NdefX.NScope (exNs fs) (exPs fs) ["__class__"] (defScope st)
  body : ∃ (z : Str) (kd : Nat) (p0 p1 p2 p3 p4 p5 : Pos), defBody st = .Expr (.Call (.Attribute (.Call (.Name "super" p0) [] [] p1) "__init__" p2) [.Constant (.str z) kd p5] [] p3) p4 :: rest ∧
    (∀ cc cda f L, interactive (NdefX.envF (exF qual st cc cda) f L) = false) ∧
    (∀ cc cda f L, ∃ pl : Sem Bool, eval (.Call (.Attribute (.Call (.Name "super" p0) [] [] p1) "__init__" p2) [.Constant (.str z) kd p5] [] p3) (NdefX.envF (exF qual st cc cda) f L) = (do
      let ov ← attributeBase (.Call (.Name "super" p0) [] [] p1) "__init__" (NdefX.envF (exF qual st cc cda) f L) (eval (.Call (.Name "super" p0) [] [] p1) (NdefX.envF (exF qual st cc cda) f L))
      standAt p2.atName
      let (g, first) ← holding [ov] (getMethod ov "__init__" pl)
      callWith p3 g first (backTo p3 (starEach [.Constant (.str z) kd p5] (NdefX.envF (exF qual st cc cda) f L))) []))
  ar : ∃ ar, ((defArgs st).posonlyargs ++ (defArgs st).args).head? = some ar ∧ ar.arg = ("self" : Str)
  ks : (defScope st).names.lookup ("super" : Str) = some .globalImplicit
  bind : ∀ (kV doc pm : Value) (an : Option Addr) (cdv ct : Value) (cc : Addr) (us : List Value), us.length = (exPs fs).length → bindArgs (PySem.W.fnX "__init__" qual (defArgs st) (defBody st) (defScope st) [("__class__", cc)] .none kV doc pm an cdv ct) ⟨us, []⟩ = pure ((exPs fs).zip us)
/-- the exception at a with its dict at dx -/
def exH (H : Hp) (a C dx : Addr) (l : List (Str × V)) : Hp := upd (upd H dx (exd dx l)) a (exo a C (some dx))
/-- what such an __init__ does -/
def spE (C : Addr) (fs : List Str) : Sp := fun vs H Q _ => ∃ a ws, vs = .ref a :: ws ∧ ws.length = fs.length ∧ H a = some (exo a C none) ∧ (fs = [] → Q .non H) ∧ (fs ≠ [] → ∀ dx, H dx = none → dx ≠ a → Q .non (exH H a C dx (fs.zip ws).reverse))
theorem exH_next {H : Hp} {a C dx : Addr} {l l' : List (Str × V)} (h : dx ≠ a) : upd (exH H a C dx l) dx (exd dx l') = exH H a C dx l' := by
  funext b
  unfold exH upd
  by_cases h1 : b = dx
  · subst h1
    rw [if_pos rfl, if_neg h, if_pos rfl]
  · rw [if_neg h1]
    by_cases h2 : b = a
    · rw [if_pos h2, if_pos h2]
    · rw [if_neg h2, if_neg h2, if_neg h1, if_neg h1]
section
variable {P : Program} [PM : PMain P] {w : World} {K : PySem.W.Frag} {mg : Str → Option Value} {base : Heap} {k : Nat} {x qual : Str} {C : Addr} {st : Stmt} {f1 f2 f3 : Str} {q1 q2 q3 q4 q5 q6 q7 q8 q9 q10 q11 q12 : Pos} {rest : List Stmt}
theorem exn0 (D : Exn K mg x C qual st []) (W : ExS qual st [] []) : Exm P w K mg base (k + 1) x C (spE C []) := by
  obtain ⟨z, kd, p0, p1, p2, p3, p4, p5, hb, hi, hev⟩ := W.body
  obtain ⟨ar, hp, har⟩ := W.ar
  refine exn_fn D W.S hb hp har W.ks W.bind hi hev (fun vs H Q E ⟨a, ws, e1, e2, e3, _⟩ => ⟨a, ws, e1, e2, e3⟩) fun cc cda f A outer s H vs Q E h => ?_
  obtain ⟨a, ws, e1, e2, e3, e4, _⟩ := h
  exact ⟨_, pss_nil, e4 rfl⟩
theorem exn1 (D : Exn K mg x C qual st [f1]) (W : ExS qual st [f1] rest) (hr : rest = [.Assign [.Attribute (.Name "self" q1) f1 q2] (.Name f1 q3) q4] := by rfl) (hd : (f1 == ("__debug__" : Str)) = false := by decide) (hc : (f1 == ("__classdict__" : Str)) = false := by decide) : Exm P w K mg base (k + 1) x C (spE C [f1]) := by
  subst hr
  obtain ⟨z, kd, p0, p1, p2, p3, p4, p5, hb, hi, hev⟩ := W.body
  obtain ⟨ar, hp, har⟩ := W.ar
  refine exn_fn D W.S hb hp har W.ks W.bind hi hev (fun vs H Q E ⟨a, ws, e1, e2, e3, _⟩ => ⟨a, ws, e1, e2, e3⟩) fun cc cda f A outer s H vs Q E h => ?_
  obtain ⟨a, ws, e1, e2, e3, _, e4⟩ := h
  subst e1
  obtain ⟨y, rfl⟩ : ∃ y, ws = [y] := by
    match ws, e2 with
    | [y], _ => exact ⟨y, rfl⟩
  refine ⟨_, pss_one (ps_ost (pe_var (i := 0) rfl (.inl (W.S.par _ (by simp)))) (pe_var (i := 1) rfl (.inl (W.S.par _ (by simp))) hd hc)), ?_⟩
  exact ⟨y, rfl, .ref a, rfl, a, C, rfl, D.oex, D.no _ (by simp), .inl ⟨e3, fun dx h1 h2 => e4 (by simp) dx h1 h2⟩⟩
theorem exn2 (D : Exn K mg x C qual st [f1, f2]) (W : ExS qual st [f1, f2] rest) (hr : rest = [.Assign [.Attribute (.Name "self" q1) f1 q2] (.Name f1 q3) q4, .Assign [.Attribute (.Name "self" q5) f2 q6] (.Name f2 q7) q8] := by rfl)
    (hd : (f1 == ("__debug__" : Str)) = false := by decide) (hc : (f1 == ("__classdict__" : Str)) = false := by decide) (hd2 : (f2 == ("__debug__" : Str)) = false := by decide) (hc2 : (f2 == ("__classdict__" : Str)) = false := by decide) : Exm P w K mg base (k + 1) x C (spE C [f1, f2]) := by
  subst hr
  obtain ⟨z, kd, p0, p1, p2, p3, p4, p5, hb, hi, hev⟩ := W.body
  obtain ⟨ar, hp, har⟩ := W.ar
  refine exn_fn D W.S hb hp har W.ks W.bind hi hev (fun vs H Q E ⟨a, ws, e1, e2, e3, _⟩ => ⟨a, ws, e1, e2, e3⟩) fun cc cda f A outer s H vs Q E h => ?_
  obtain ⟨a, ws, e1, e2, e3, _, e4⟩ := h
  subst e1
  obtain ⟨y1, y2, rfl⟩ : ∃ y1 y2, ws = [y1, y2] := by
    match ws, e2 with
    | [y1, y2], _ => exact ⟨y1, y2, rfl⟩
  refine ⟨_, pss_cons (ps_ost (pe_var (i := 0) rfl (.inl (W.S.par _ (by simp)))) (pe_var (i := 1) rfl (.inl (W.S.par _ (by simp))) hd hc)) (pss_one (ps_ost (pe_var (i := 0) rfl (.inl (W.S.par _ (by simp)))) (pe_var (i := 2) rfl (.inl (W.S.par _ (by simp))) hd2 hc2))), ?_⟩
  refine ⟨y1, rfl, .ref a, rfl, a, C, rfl, D.oex, D.no _ (by simp), .inl ⟨e3, fun dx h1 h2 => ?_⟩⟩
  refine ⟨y2, rfl, .ref a, rfl, a, C, rfl, D.oex, D.no _ (by simp), .inr ⟨dx, [(f1, y1)], upd_same, (upd_ne h2).trans upd_same, by simp, ?_⟩⟩
  have e := e4 (by simp) dx h1 h2
  rw [← exH_next (l := [(f1, y1)]) h2] at e
  exact e
theorem exn3 (D : Exn K mg x C qual st [f1, f2, f3]) (W : ExS qual st [f1, f2, f3] rest) (hr : rest = [.Assign [.Attribute (.Name "self" q1) f1 q2] (.Name f1 q3) q4, .Assign [.Attribute (.Name "self" q5) f2 q6] (.Name f2 q7) q8, .Assign [.Attribute (.Name "self" q9) f3 q10] (.Name f3 q11) q12] := by rfl)
    (hd : (f1 == ("__debug__" : Str)) = false := by decide) (hc : (f1 == ("__classdict__" : Str)) = false := by decide) (hd2 : (f2 == ("__debug__" : Str)) = false := by decide) (hc2 : (f2 == ("__classdict__" : Str)) = false := by decide)
    (hd3 : (f3 == ("__debug__" : Str)) = false := by decide) (hc3 : (f3 == ("__classdict__" : Str)) = false := by decide) : Exm P w K mg base (k + 1) x C (spE C [f1, f2, f3]) := by
  subst hr
  obtain ⟨z, kd, p0, p1, p2, p3, p4, p5, hb, hi, hev⟩ := W.body
  obtain ⟨ar, hp, har⟩ := W.ar
  refine exn_fn D W.S hb hp har W.ks W.bind hi hev (fun vs H Q E ⟨a, ws, e1, e2, e3, _⟩ => ⟨a, ws, e1, e2, e3⟩) fun cc cda f A outer s H vs Q E h => ?_
  obtain ⟨a, ws, e1, e2, e3, _, e4⟩ := h
  subst e1
  obtain ⟨y1, y2, y3, rfl⟩ : ∃ y1 y2 y3, ws = [y1, y2, y3] := by
    match ws, e2 with
    | [y1, y2, y3], _ => exact ⟨y1, y2, y3, rfl⟩
  refine ⟨_, pss_cons (ps_ost (pe_var (i := 0) rfl (.inl (W.S.par _ (by simp)))) (pe_var (i := 1) rfl (.inl (W.S.par _ (by simp))) hd hc)) (pss_cons (ps_ost (pe_var (i := 0) rfl (.inl (W.S.par _ (by simp)))) (pe_var (i := 2) rfl (.inl (W.S.par _ (by simp))) hd2 hc2))
    (pss_one (ps_ost (pe_var (i := 0) rfl (.inl (W.S.par _ (by simp)))) (pe_var (i := 3) rfl (.inl (W.S.par _ (by simp))) hd3 hc3)))), ?_⟩
  refine ⟨y1, rfl, .ref a, rfl, a, C, rfl, D.oex, D.no _ (by simp), .inl ⟨e3, fun dx h1 h2 => ?_⟩⟩
  refine ⟨y2, rfl, .ref a, rfl, a, C, rfl, D.oex, D.no _ (by simp), .inr ⟨dx, [(f1, y1)], upd_same, (upd_ne h2).trans upd_same, by simp, ?_⟩⟩
  rw [show upd (upd (upd H dx (exd dx [(f1, y1)])) a (exo a C (some dx))) dx (exd dx [(f2, y2), (f1, y1)]) = exH H a C dx [(f2, y2), (f1, y1)] from exH_next (l := [(f1, y1)]) h2]
  refine ⟨y3, rfl, .ref a, rfl, a, C, rfl, D.oex, D.no _ (by simp), .inr ⟨dx, [(f2, y2), (f1, y1)], upd_same, (upd_ne h2).trans upd_same, by simp, ?_⟩⟩
  have e := e4 (by simp) dx h1 h2
  rw [← exH_next (l := [(f2, y2), (f1, y1)]) h2] at e
  exact e
end
/-! ### C(e, ..) made to be raised -/
/-- a reading that may be weakened -/
def taW (ta : TA) : TA := fun σ H P => ∃ P0 : List V → Hp → Prop, ta σ H P0 ∧ ∀ vs H1, P0 vs H1 → P vs H1
theorem pa_w {X : Cx} {es : List Expr} {ta : TA} (ha : PA X es ta) : PA X es (taW ta) := ⟨fun pos pins s σ H Q I ⟨P0, h, hp⟩ => thn (ha.run pos pins s σ H P0 I h) fun us s' ⟨vs, H', J, r, q⟩ => ⟨vs, H', J, r, hp _ _ q⟩⟩
/-- C(e, ..), C an own exception with the fields fs: its dict has them -/
def tExn (C : Addr) (fs : List Str) (ta : TA) : L2.St → Hp → XK → Prop := fun σ H Q => ta σ H fun vs H1 => vs.length = fs.length ∧ ∀ d, H1 d = none → Q (.ref C) (some d) (upd H1 d (.xd (fs.zip vs).reverse))
def tExn0 (C : Addr) : L2.St → Hp → XK → Prop := fun _ H Q => Q (.ref C) none H
theorem exH_end {H : Hp} {a C d : Addr} {l : List (Str × V)} (ha : H a = none) (hd : d ≠ a) : upd (del (exH (upd H a (exo a C none)) a C d l) a) d (.xd l) = upd H d (.xd l) := by
  funext b
  unfold exH upd del
  by_cases h1 : b = d
  · rw [if_pos h1, if_pos h1]
  · rw [if_neg h1, if_neg h1]
    by_cases h2 : b = a
    · rw [h2, ha]
      exact if_pos rfl
    · show (if b = a then none else _) = _
      rw [if_neg h2]
      show (if b = a then _ else if b = d then _ else if b = a then _ else H b) = _
      rw [if_neg h2, if_neg h1, if_neg h2]
section
variable {X : Cx} {e : Expr} {es : List Expr} {ta : TA} {p pos : Pos} {x : Str} {C : Addr} {k j : Nat} {fs : List Str}
theorem pmk_exn (c : Exm X.prog X.w X.K X.mg X.base k x C (spE C fs)) (hr : Room j X.A) (hk : k + 1 ≤ j) (hg : Gl X x) (ha : PA X (e :: es) ta) (hn : fs ≠ []) (hn2 : fs.length ≤ 1000 := by decide)
    (hdb : (x == ("__debug__" : Str)) = false := by decide) (he : starEach (e :: es) X.env = (false, eval e X.env) :: starEach es X.env := by rfl) (hpl : (backTo pos (starEach es X.env)).any (·.1) = false := by rfl) :
    PMk X (.Call (.Name x p) (e :: es) [] pos) (tExn C fs ta) := by
  obtain ⟨f, fd, ps, T, hm, iC, tI, F, b⟩ := c.ex
  intro pins s σ H Q I h
  refine pmk_oex T iC tI F (hr.mono hk) b .nil (fun pins σ H s e s' I hq => ?_) hg hm (pa_w ha) hdb he hpl pins s σ H Q I ?_
  · obtain ⟨_, _, _, _, _, _, _, _, _, _, _, _, z⟩ := hq
    exact z.elim
  · refine ⟨_, h, fun vs H1 ⟨hl, q⟩ => ⟨by omega, fun a ha => ?_⟩⟩
    rw [List.append_nil]
    refine ⟨a, vs, rfl, hl, upd_same, fun z => absurd z hn, fun _ dx h1 h2 => ⟨rfl, dx, (fs.zip vs).reverse, upd_same, (upd_ne h2).trans upd_same, ?_, ?_⟩⟩
    · rw [upd_ne h2] at h1
      exact h1
    · rw [exH_end ha h2]
      rw [upd_ne h2] at h1
      exact q dx h1
end
section
variable {X : Cx} {p pos : Pos} {x : Str} {C : Addr} {k j : Nat}
/-- the end of C(), an exception without fields -/
theorem mk_endN {pins : List (Addr × Obj)} {σ : L2.St} {H1 : Hp} {hp hp2 h2 : Heap} {g1 g2 : Array GenState} {d1 d2 : Drawn} {t1 t2 : Nat} {os1 os2 : OsState} {a : Addr} (I1 : Inv X pins σ H1 ⟨hp, g1, d1, t1, os1⟩)
    (ha : hp.objs.size ≤ a) (k : ∀ b o, hp.get? b = some o → hp2.get? b = some o) (un : Un (frs X.stack) [] (upd H1 a (exo a C none)) (upd H1 a (exo a C none)) hp2 h2) (hok : HOk X.prog X.w (upd H1 a (exo a C none)) h2) (ho : os2 = os1) (hb : AllBare g2) :
    ∃ (t0 : Addr) (G : Heap), Inv X pins σ H1 ⟨G, g2, d2, t2, os2⟩ ∧ (∀ b o, G.get? b = some o → h2.get? b = some o) ∧ G.get? a = none ∧
      h2.get? a = some ({ cls := .ref C, dict := none, data := .fields #[.ref t0, .none, .none, .none, .bool false, .none] } : Obj) ∧ H1 a = none := by
  obtain ⟨t0, hoe⟩ := exo_at hok upd_same
  have hn : H1 a = none := I1.hok.fresh ha
  obtain ⟨G, g1', g2'⟩ := restrict h2 fun b => decide (b ≠ a)
  have gk : ∀ b, b ≠ a → G.get? b = h2.get? b := fun b hb => g1' b (decide_eq_true hb)
  have ge : G.get? a = none := g2' a (by simp)
  have nha : ∀ {b : Addr} {o : Obj}, hp.get? b = some o → b ≠ a := fun {b o} z => Nat.ne_of_lt (Nat.lt_of_lt_of_le (Heap.lt_size z) ha)
  have up : ∀ {b : Addr}, b ≠ a → H1 b = none → upd H1 a (exo a C none) b = none := fun {b} hb n => by rw [upd_ne hb]; exact n
  have U : Un (frs X.stack) [] H1 H1 hp G := {
    keep := fun b o z n hf hx => by
      rw [gk b (nha z)]
      exact un.keep b o (k b o z) (up (nha z) n) hf hx
    slot := fun b o z n hf hx => by
      rw [gk b (nha z)]
      exact un.slot b o (k b o z) (up (nha z) n) hf hx
    free := fun b o z n hx => n
    there := fun b o z hx => by
      rw [gk b (nha z)]
      exact un.there b o (k b o z) hx
    tups := fun b xs z => z
    frzs := fun b o v z => z
    tbls := fun b ps z => ⟨#[], by rw [z]; simp⟩ }
  have hok3 : HOk X.prog X.w H1 G := fun b o z => by
    have hba : b ≠ a := fun e => by
      rw [e, hn] at z
      cases z
    have z2 : upd H1 a (exo a C none) b = some o := by rw [upd_ne hba]; exact z
    have noa : ∀ {c : Addr} {u : HO}, H1 c = some u → c ≠ a := fun {c u} hc e => by
      rw [e, hn] at hc
      cases hc
    have nox : ∀ {c : Addr}, upd H1 a (exo a C none) c = some (.own b) → c ≠ a := fun {c} hc => at_ne upd_same hc exo_own
    exact (hok b o z2).stay (fun c v hc y => by
        have hca : c ≠ a := by
          rcases hc with hc | hc
          · rw [hc]
            exact hba
          · exact nox hc
        rw [gk c hca]
        exact y)
      (fun c hc => by
        have e := nox hc
        rw [upd_ne e] at hc
        exact hc)
      (fun c xs hc => by
        have e : c ≠ a := at_ne upd_same hc exo_tup
        rw [upd_ne e] at hc
        exact hc)
  have J : Inv X pins σ H1 ⟨G, g2, d2, t2, os2⟩ := I1.call' (ch := []) ho U hok3 hb (fun b z => absurd z (by simp))
  refine ⟨t0, G, J, fun b o z => ?_, ge, hoe, hn⟩
  by_cases hba : b = a
  · rw [hba, ge] at z
    cases z
  · exact (gk b hba).symm.trans z
/-- C(), C an own exception without fields -/
theorem pmk_exn0 (c : Exm X.prog X.w X.K X.mg X.base k x C (spE C [])) (hr : Room j X.A) (hk : k + 1 ≤ j) (hg : Gl X x)
    (hdb : (x == ("__debug__" : Str)) = false := by decide) : PMk X (.Call (.Name x p) [] [] pos) (tExn0 C) := by
  obtain ⟨f, fd, ps, T, hm, iC, tI, F1, hb⟩ := c.ex
  intro pins s σ H Q I h
  obtain ⟨nm, q, N, bs, bm, sn, sub, ab, col, dd, k0, k1, k2, k3, k5, hC, hbm⟩ := T.cls
  refine wpAny_Call_Name_kw (ld_glob I hg hm ?_ hdb)
  refine PySem.W.callWith_K0 I.kIn T.kC ?_
  show wpAny _ _ (call (.ref C) []) _ _ _
  obtain ⟨hp, g, dr, tk, os⟩ := s
  have hsz : hp.objs.size ≤ hp.objs.size + 1 := Nat.le_succ _
  have hn : H (hp.objs.size + 1) = none := I.hok.fresh hsz
  have kk : ∀ b o, hp.get? b = some o → ((hp.push (PySem.W.kdv_tup [])).push (PySem.HandSPX.excO C hp.objs.size)).get? b = some o := fun b o e => Heap.get?_push_of_some _ (Heap.get?_push_of_some _ e)
  have hget : ((hp.push (PySem.W.kdv_tup [])).push (PySem.HandSPX.excO C hp.objs.size)).get? (hp.objs.size + 1) = some (PySem.HandSPX.excO C hp.objs.size) := by heap_get
  have I2 : Inv X pins σ (upd H (hp.objs.size + 1) (exo (hp.objs.size + 1) C none)) ⟨(hp.push (PySem.W.kdv_tup [])).push (PySem.HandSPX.excO C hp.objs.size), g, dr, tk, os⟩ :=
    I.laid (t' := tk) (a := hp.objs.size + 1) (o := exo (hp.objs.size + 1) C none) (h' := (hp.push (PySem.W.kdv_tup [])).push (PySem.HandSPX.excO C hp.objs.size)) kk hsz (exo_ok hget)
  have hq : spE C [] [V.ref (hp.objs.size + 1)] (upd H (hp.objs.size + 1) (exo (hp.objs.size + 1) C none)) (fun v H2 => v = .non ∧ H2 = upd H (hp.objs.size + 1) (exo (hp.objs.size + 1) C none)) (fun _ _ _ => False) := ⟨_, [], rfl, rfl, upd_same, fun _ => ⟨rfl, rfl⟩, fun z => absurd rfl z⟩
  have r2 : Vals [V.ref (hp.objs.size + 1)] [Value.ref (hp.objs.size + 1)] := .cons rfl .nil
  have hl : ([Value.ref (hp.objs.size + 1)] ++ []).length = ps.length := by
    rw [← F1.len _ _ _ _ hq]
    rfl
  refine wpAny_call (PySem.HandSPX.call_own F.excBase_ValueError (fun Y => PySem.HandSPX.refsVE_contains Y bm hbm) (I.kIn _ _ hC) (PySem.W.looks_findIn I.kIn iC) (fun self => PySem.W.bind_fn I.kIn self tI) (by rw [sizeLine_eq]; exact Nat.zero_le _)
    (codeAny_mono (F1.run _ X.stack _ _ ⟨[Value.ref (hp.objs.size + 1)], []⟩ [Value.ref (hp.objs.size + 1)] _ _ (fun _ _ _ => False) ((hr.mono hk).make C [] []) (I2.env0.make C [] []) (hb _ _ I2.kIn hl) r2 hq) fun r s' hq' => ?_))
  cases r with
  | error er =>
    obtain ⟨_, _, _, _, _, _, _, _, _, _, _, _, z⟩ := hq'
    exact z.elim
  | ok fl =>
    cases fl with
    | ret u =>
      obtain ⟨v, H2, os2, bare2, un2, hok2, rv, ev, eH⟩ := hq'
      subst ev
      subst eH
      obtain ⟨h2, g2, d2, t2, os'⟩ := s'
      obtain ⟨t0, G, J, kG, ge, hoe, na⟩ := mk_endN (d2 := d2) (t2 := t2) I hsz kk un2 hok2 os2 bare2
      exact ⟨rv, _, _, _, ⟨G, g2, d2, t2, os'⟩, _, .ref C, none, rfl, J, kG, ge, hoe, ⟨rfl, rfl⟩, rfl, rfl, na, rfl, bare2, raises_own T.exC T.tyC, h⟩
    | next => exact False.elim hq'
    | brk => exact False.elim hq'
    | cont => exact False.elim hq'
end
/-! ### calls that may raise: in a def that lets it out (passE), in a try (passAt) -/
theorem passE {X : Cx} {E : XK} {E₁ : Value → Shared → Prop} (hs : X.stack = X.env :: X.outer) (hf : X.env.frame = some X.env.locals) (hex : X.ex = [])
    (hx : X.xe = fun e s' => wpAny (model X.prog X.w) X.A (leaving X.env e) (fun _ s'' => L2.CX X.prog X.w X.outer X.H_0 X.s_0 E e s'') E₁ s') : Passes (L2.CX X.prog X.w) X E :=
  fun _ _ _ _ e s' I c => takes_of hs hf hex hx e s' (XE.of_call I (fun _ _ _ h => h) c)
def tMethS (C : Addr) (m : Str) (sp : Sp) (E : L2.St → XK) (ta : TE) (t : TA) : TE := fun σ H Q => ta σ H fun x H1 => ∃ a dx fs, x = .ref a ∧ H1 a = some (.ins C dx fs) ∧ fs.lookup m = none ∧ t σ H1 fun vs H2 => sp (x :: vs) H2 Q (E σ)
def tMakeS (C : Addr) (sp : Sp) (E : L2.St → XK) (t : TA) : TE := fun σ H Q => t σ H fun vs H1 => ∀ x dx, H1 x = none → H1 dx = none → dx ≠ x →
  sp (.ref x :: vs) (upd (upd H1 dx (.own x)) x (.ins C dx [])) (fun v H2 => v = .non ∧ Q (.ref x) H2) (E σ)
section
variable {X : Cx} {k j : Nat} {C : Addr} {x m : Str} {sp : Sp} {p pos apos : Pos} {e o : Expr} {es : List Expr} {ta : TE} {t : TA} {E : L2.St → XK}
theorem pe_cxS (c : Cal X.prog X.w X.K X.mg X.base k x sp []) (hr : Room j X.A) (hk : k ≤ j) (hg : Gl X x) (hx : ∀ σ, PassesAt (L2.CX X.prog X.w) X σ (E σ)) (ha : PA X (e :: es) t)
    (hdb : (x == ("__debug__" : Str)) = false := by decide) (he : starEach (e :: es) X.env = (false, eval e X.env) :: starEach es X.env := by rfl) (hpl : (backTo pos (starEach es X.env)).any (·.1) = false := by rfl) :
    PE X (.Call (.Name x p) (e :: es) [] pos) (tCallS sp E t) := by
  obtain ⟨f, fd, ps, ds, F, hm, kp, b, d⟩ := c.ex
  cases d
  exact pe_callS F (hr.mono hk) hg hm kp b hx ha hdb he hpl
theorem pe_mtxS {pl : Sem Bool} (c : Met X.prog X.w X.K X.mg X.base k C m sp []) (hr : Room j X.A) (hk : k ≤ j) (hx : ∀ σ, PassesAt (L2.CX X.prog X.w) X σ (E σ)) (he : PE X o ta) (ha : PA X (e :: es) t)
    (hst : starEach (e :: es) X.env = (false, eval e X.env) :: starEach es X.env := by rfl) (hpl : (backTo pos (starEach es X.env)).any (·.1) = false := by rfl)
    (ht : eval (.Call (.Attribute o m apos) (e :: es) [] pos) X.env = (do
      let ov ← eval o X.env
      standAt apos.atName
      let (f, first) ← holding [ov] (getMethod ov m pl)
      callWith pos f first (backTo pos (starEach (e :: es) X.env)) (backToKw pos (keywordEach [] X.env))) := by rfl) :
    PE X (.Call (.Attribute o m apos) (e :: es) [] pos) (tMethS C m sp E ta t) := by
  obtain ⟨f, fd, ps, ds, hc, hm, F, b, d⟩ := c.ex
  cases d
  refine ⟨fun pins s σ H Q I h => ?_⟩
  refine PySem.W.methodCall_KW (pl := pl) (thn (he.run pins s σ H _ I h) fun u s1 ⟨x, H1, I1, rx, a, dx, fs, ex, ea, l, q⟩ => ?_) ht
  subst ex
  obtain rfl : u = Value.ref a := rx
  refine getmeth_ok I1 ea hc hm l ?_
  refine PySem.W.callWith_K (first := [.ref a]) (h₀ := X.base) I.ok.mod.kin hm.kp (thn (ha.run pos pins s1 σ H1 _ I1 q) fun us s2 ⟨vs, H2, I2, r, q2⟩ => ⟨I2.kIn, ?_⟩) hst hpl
  exact run_fnS (us := .ref a :: us) (vs := .ref a :: vs) F (hr.mono hk) b (hx σ) I2 (.cons rfl r) q2
theorem pe_mkxS (c : Mak X.prog X.w X.K X.mg X.base k x C sp []) (hr : Room j X.A) (hk : k + 1 ≤ j) (hg : Gl X x) (hx : ∀ σ, PassesAt (L2.CX X.prog X.w) X σ (E σ)) (ha : PA X (e :: es) t)
    (hdb : (x == ("__debug__" : Str)) = false := by decide) (he : starEach (e :: es) X.env = (false, eval e X.env) :: starEach es X.env := by rfl) (hpl : (backTo pos (starEach es X.env)).any (·.1) = false := by rfl) :
    PE X (.Call (.Name x p) (e :: es) [] pos) (tMakeS C sp E t) := by
  obtain ⟨f, fd, ps, ds, M, F, hm, b, d⟩ := c.ex
  cases d
  refine ⟨fun pins s σ H Q I h => ?_⟩
  refine wpAny_Call_Name_kw (ld_glob I hg hm ?_ hdb)
  refine PySem.W.callWith_K (h₀ := X.base) I.ok.mod.kin M.kp (thn (ha.run pos pins s σ H _ I h) fun us s1 ⟨vs, H1, I1, r, q⟩ => ⟨I1.kIn, ?_⟩) he hpl
  have hq := q (s1.heap.objs.size + 1) s1.heap.objs.size (I1.hok.fresh (Nat.le_succ _)) (I1.hok.fresh (Nat.le_refl _)) (Nat.ne_of_lt (Nat.lt_succ_self _))
  have I2 := Inv.made (C := C) I1
  have r2 : Vals (V.ref (s1.heap.objs.size + 1) :: vs) (Value.ref (s1.heap.objs.size + 1) :: us) := .cons rfl r
  have hl : (Value.ref (s1.heap.objs.size + 1) :: us ++ []).length = ps.length := by
    have e := r2.length
    rw [F.len _ _ _ _ hq] at e
    rw [List.append_nil]
    exact e.symm
  have bb := b _ (Value.ref (s1.heap.objs.size + 1) :: us) I2.kIn hl
  rw [List.append_nil] at bb
  refine wpAny_call (make_map (f := f) I1.kIn M.makes M.init (beq_iff_eq.mp M.fn) (codeAny_mono (F.run _ X.stack _ _ ⟨Value.ref (s1.heap.objs.size + 1) :: us, []⟩ (Value.ref (s1.heap.objs.size + 1) :: us) _ _ (E σ) ((hr.mono hk).make C us [])
    (I2.env0.make C us []) bb r2 hq) fun r s' hq' => ?_))
  cases r with
  | error e => exact hx σ pins _ _ e s' I2 hq'
  | ok fl =>
    cases fl with
    | ret u =>
      obtain ⟨v, H', I3, rv, ev, q3⟩ := I2.after hq'
      subst ev
      exact ⟨rv, ⟨V.ref (s1.heap.objs.size + 1), H', I3, rfl, q3⟩⟩
    | next => exact False.elim hq'
    | brk => exact False.elim hq'
    | cont => exact False.elim hq'
end
/-- no exception of the body goes further than the clauses -/
theorem takesN {X : Cx} : Takes X (fun _ _ _ _ => False) := fun _ _ x => by
  obtain ⟨_, _, _, _, _, _, _, _, _, _, _, _, _, _, _, _, z⟩ := x
  exact z.elim
/-- the clause of an own class tells of an exception of a class -/
theorem Exn.exm {K : PySem.W.Frag} {mg : Str → Option Value} {x qual : Str} {C : Addr} {st : Stmt} {fs : List Str} (D : Exn K mg x C qual st fs) {cls : Value} {b : Bool} (h : PySem.W.subIn K cls (.ref C) = some b) : PySem.W.exmOne K cls (.ref C) = some b :=
  PySem.W.exm_ref D.oex.exC (by
    obtain ⟨nm, q, N, bs, bm, sn, sub, ab, col, dd, k0, k1, k2, k3, k5, hC, hbm⟩ := D.oex.cls
    unfold PySem.W.hasDictIn PySem.W.clsIn
    rw [hC]
    rfl) D.oex.tyC h
theorem Exn.self {K : PySem.W.Frag} {mg : Str → Option Value} {x qual : Str} {C : Addr} {st : Stmt} {fs : List Str} (D : Exn K mg x C qual st fs) : PySem.W.exmOne K (.ref C) (.ref C) = some true := D.exm (by
  have e := D.sub
  unfold PySem.W.subIn
  first | exact e | (simp [e]))
end Tr

/-! # a, b = an item that is a tuple or a list. -/
namespace Tr
open PySem PySem.Spec PyProof.Rows L2
/-- a tuple or a list -/
def SqE (K : PySem.W.Frag) (H : Hp) (a : Addr) (xs : List V) : Prop := SqT K H a xs ∨ SqL K H a xs
/-- a, b, .. = a tuple or a list of that length -/
def gSeq (K : PySem.W.Frag) (n : Nat) (t : TGs) : TG := fun v σ H Q => ∃ a xs, v = .ref a ∧ SqE K H a xs ∧ xs.length = n ∧ t xs σ H Q
theorem pg_seq {X : Cx} {pos : Pos} {es : List Expr} {k : Nat} {t : TGs} {n : Nat} (hc : X.calm = true) (h : PGs X es t)
    (hn : (assignEach es X.env).length = n := by rfl) (hst : (assignEach es X.env).findIdx? (·.1) = none := by rfl) : PG X (.Tuple es k pos) (gSeq X.K n t) := by
  refine ⟨fun pins s σ H v u Q I r hw => ?_⟩
  obtain ⟨a, xs, e1, hq, hl, hw⟩ := hw
  rcases hq with hq | hq
  · exact (pg_tup hc h hn hst).run pins s σ H v u Q I r ⟨a, xs, e1, hq, hl, hw⟩
  · exact (pg_lst hc h hn hst).run pins s σ H v u Q I r ⟨a, xs, e1, hq, hl, hw⟩
end Tr

/-! # A method that answers NotImplemented; == of an object and a thing of another kind. -/
namespace Tr
open PySem PySem.Spec PyProof.Rows L2
/-- statements that end by NotImplemented, the heap as it was -/
structure PNi (X : Cx) (st : List Stmt) (t : L2.St → Hp → Prop) : Prop where
  run : ∀ (pins : List (Addr × Obj)) (s : Shared) (σ : L2.St) (H : Hp), Inv X pins σ H s → t σ H → wpAny (model X.prog X.w) X.A (execs st X.env) (fun f s' => f = .ret .notImplemented ∧ ∃ σ', Inv X pins σ' H s') X.xe s
theorem pni_ret {X : Cx} {pos p2 : Pos} {rest : List Stmt} (hg : Gl X "NotImplemented") (hm : X.mg "NotImplemented" = none) : PNi X (.Return (some (.Name "NotImplemented" pos)) p2 :: rest) fun _ _ => True := by
  refine ⟨fun pins s σ H I _ => ?_⟩
  refine wpAny_execs_cons (wpAny_Return_some (ld_blt I hg hm (u := .notImplemented) (by rfl) ?_))
  exact ⟨rfl, σ, I⟩
theorem pni_if {X : Cx} {c : Expr} {a b : List Stmt} {pos : Pos} {rest : List Stmt} {tc : TT} {t : L2.St → Hp → Prop} (hc : PT X c tc) (ha : PNi X a t) : PNi X (.If c a b pos :: rest) fun σ H => tc σ H fun d H' => d = true ∧ H' = H ∧ t σ H := by
  refine ⟨fun pins s σ H I h => ?_⟩
  refine wpAny_execs_cons (wpAny_If (thn (hc.run pins s σ H _ I h) fun d s1 ⟨H1, I1, q1⟩ => ?_))
  obtain ⟨rfl, rfl, q⟩ := q1
  refine thn (ha.run pins s1 σ H1 I1 q) fun f s2 q2 => ?_
  obtain ⟨rfl, q2⟩ := q2
  exact ⟨rfl, q2⟩
theorem PNi.nox {X : Cx} {st : List Stmt} {t : L2.St → Hp → Prop} (h : PNi X.nox st t) : PNi X st t := ⟨fun pins s σ H I q => wpAny_mono (h.run pins s σ H (I.wish _) q) (fun _ _ ⟨e, σ', I'⟩ => ⟨e, σ', I'.unwish⟩) fun _ _ z => False.elim z⟩
/-- the end of such a call -/
def CNi (outer : List Env) (P : Program) (w : World) (H : Hp) (s : Shared) (r : Result) (s' : Shared) : Prop :=
  r = .ok (.ret .notImplemented) ∧ s'.os = s.os ∧ AllBare s'.gens ∧ Un (frs outer) [] H H s.heap s'.heap ∧ HOk P w H s'.heap
structure FnNi (P : Program) (w : World) (K : PySem.W.Frag) (mg : Str → Option Value) (base : Heap) (k : Nat) (f : Addr) (fd : FuncData) (ps : List Str) (sp : List V → Hp → Prop) : Prop where
  len : ∀ vs H, sp vs H → vs.length = ps.length
  run : ∀ (A : Around) (outer : List Env) (s : Shared) (H : Hp) (args : Args) (us : List Value) (vs : List V), Room k A → Env0 P w K mg base A outer s H → BindsTo s fd args (ps.zip us) → Vals vs us → sp vs H →
    codeAny (model P w) A (.call (.ref f) args) (CNi outer P w H s) s
/-- a method that answers NotImplemented -/
structure NiMet (P : Program) (w : World) (K : PySem.W.Frag) (mg : Str → Option Value) (base : Heap) (k : Nat) (C : Addr) (m : Str) (sp : List V → Hp → Prop) : Prop where
  ex : ∃ (f : Addr) (fd : FuncData) (ps : List Str), Cls K C ∧ Meth K C m f ∧ FnNi P w K mg base k f fd ps sp ∧ Binds K fd ps []
section
variable {P : Program} {w : World} {K : PySem.W.Frag} {mg : Str → Option Value} {base : Heap}
theorem fni_of {k : Nat} {f : Addr} {name qual : Str} {params : Arguments} {body : List Stmt} {scope : Scope} {dV kV doc pm cdv ct oc : Value} {an od : Option Addr}
    {osl : Array (Option Value)} {N ps : List Str} {sp : List V → Hp → Prop} (lk : K.lookup f = some ⟨oc, od, .func (PySem.W.fnOf name qual params body scope dV kV doc pm an cdv ct), osl⟩) (hcd : PySem.W.codeIn K cdv qual = true) (S : FnScope N ps scope)
    (len : ∀ vs H, sp vs H → vs.length = ps.length)
    (hbody : ∀ (A : Around) (outer : List Env) (s : Shared) (H : Hp) (vs : List V) (E : XK), Room k (A.deeper (envOfC qual scope s.heap.objs.size f cdv)) → sp vs H →
      ∃ t, PNi (cxOf (L2.CX P w) P w K mg base N qual scope f cdv A outer s H E).nox body t ∧ t (start N vs) H) :
    FnNi P w K mg base (k + 1) f (PySem.W.fnOf name qual params body scope dV kV doc pm an cdv ct) ps sp := by
  refine ⟨len, fun A outer s H args us vs hr e0 hb r hsp => ?_⟩
  have stands : ∀ b o, base.get? b = some o → s.heap.get? b = some o := fun b o e => (e0.bs b o e).1
  have inK := e0.mod.kin.keeps stands
  obtain ⟨t, body_, start_⟩ := hbody A outer s H vs (fun _ _ _ => False) (hr.deeper _) hsp
  refine codeAny_call_function hr.depth (inK _ _ lk) rfl S.co S.gen rfl (PySem.W.codeRec_of inK hcd) (hb _ _ _ _ (wpAny_newFunctionEnv_cells S.kind (fun y hy => ?_) fun env he s1 x => ?_))
  · exact (S.par y.1 (List.of_mem_zip hy).1).imp id fun q => ⟨q, PySem.W.cellsFrom_some _ _ _ (.inl q)⟩
  · subst he
    refine ⟨(e0.mod.nolimit.keeps stands).keeps x.toInCall.keep, codeAny_func ?_⟩
    have begun := inv_start (CX := L2.CX P w) (E := fun _ _ _ => False) S hr.hd e0 (len _ _ hsp) r x
    refine wpAny_mono (body_.run [] s1 _ H (begun.wish _) start_) (fun fl s' ended => ?_) fun _ _ z => False.elim z
    obtain ⟨rfl, σ', J⟩ := ended
    exact ⟨rfl, J.os, J.bare, J.base, J.hok⟩
theorem niN {m qual : Str} {C : Addr} {st : Stmt} {N ps : List Str} {k : Nat} {sp : List V → Hp → Prop} (D : Mth K C m qual st) (S : FnScope N ps (defScope st)) (len : ∀ vs H, sp vs H → vs.length = ps.length)
    (hb : ∀ (kV doc pm : Value) (an : Option Addr) (cdv ct : Value) (us : List Value), us.length = ps.length → bindArgs (PySem.W.fnOf m qual (defArgs st) (defBody st) (defScope st) .none kV doc pm an cdv ct) ⟨us, []⟩ = pure (ps.zip us))
    (hbody : ∀ (f : Addr) (cdv : Value) (A : Around) (outer : List Env) (s : Shared) (H : Hp) (vs : List V) (E : XK), Room k (A.deeper (envOfC qual (defScope st) s.heap.objs.size f cdv)) → sp vs H →
      ∃ t, PNi (cxOf (L2.CX P w) P w K mg base N qual (defScope st) f cdv A outer s H E).nox (defBody st) t ∧ t (start N vs) H) : NiMet P w K mg base (k + 1) C m sp := by
  obtain ⟨f, fd, hm, F⟩ := D.ex
  have F0 := F
  obtain ⟨oc, od, kV, doc, pm, an, cdv, ct, osl, rfl, lk, hcd⟩ := F.ex
  exact ⟨f, _, ps, D.cls, hm, fni_of lk hcd S len fun A outer s H vs E hr h => hbody f cdv A outer s H vs E hr h, F0.binds hb⟩
end
/-! ## richCompare -/
section
variable {M : Model} {A : Around} {E : Value → Shared → Prop} {s : Shared}
/-- == where both decline -/
theorem eq_ni {prog : Program} {w : World} {K : PySem.W.Frag} {x C f : Addr} {tb : String} {b : Value} {ox : Obj} {od : Option Obj} {R R2 : Shared → Prop} {Q : Value → Shared → Prop} (hu : A.units < cLine) (X : K.In s.heap) (I : PySem.W.InstAt s.heap x ox C od)
    (hb : PySem.W.Looks (model prog w) s.heap (typeOf b) (.type tb)) (hn : PySem.W.subIn K (.type tb) (.ref C) = some false) (hs : PySem.W.findIn K (.ref C) "__eq__" = some (some (.ref f))) (hf : PySem.W.isFn K (.ref f) = true)
    (h1 : wpAny (model prog w) A (call (.ref f) [.ref x, b]) (fun v s' => v = .notImplemented ∧ R s') E s)
    (h2 : ∀ s', R s' → wpAny (model prog w) A (tryCompare b "__eq__" (.ref x)) (fun r s' => r = none ∧ R2 s') E s')
    (h3 : ∀ s', R2 s' → wpAny (model prog w) A (isSame (.ref x) b) (fun c s'' => Q (.bool c) s'') E s') : wpAny (model prog w) A (richCompare .Eq (.ref x) b) Q E s := by
  have one : wpAny (model prog w) A (tryCompare (.ref x) "__eq__" b) (fun r s' => r = none ∧ R s') E s := by
    unfold tryCompare
    refine wpAny_bind (PySem.W.ifBound_K X I hs hf (wpAny_mono h1 (fun v s' hv => ?_) fun _ _ e => e))
    obtain ⟨rfl, hv⟩ := hv
    exact wpAny_pure ⟨rfl, hv⟩
  simp only [richCompare, cmpInfo_Eq, oneThing_ref]
  refine wpAny_holding (wpAny_bind (wpAny_cRoomFor hu ?_))
  refine wpAny_bind (I.type.here (wpAny_bind (hb.here ?_)))
  split
  · refine wpAny_bind ((PySem.W.looks_subIn X hn).here ?_)
    simp only [Bool.false_eq_true, if_false, Bool.not_false, if_true]
    refine wpAny_bind (wpAny_mono one (fun r s1 z => ?_) fun _ _ e => e)
    obtain ⟨rfl, z2⟩ := z
    refine wpAny_bind (wpAny_mono (h2 s1 z2) (fun r s2 z => ?_) fun _ _ e => e)
    obtain ⟨rfl, z2⟩ := z
    exact wpAny_bind (wpAny_rule (wpAny_bind (wpAny_mono (h3 _ z2) (fun _ _ q => wpAny_pure q) fun _ _ e => e)))
  · rename_i q
    exact absurd (by simp) q
theorem list_ni (l x : Addr) (items : Array Value) (n : Nat) (dd : Option Addr) (sl : Array (Option Value)) {prog : Program} {w : World} {A : Around} {R : Fin → Shared → Prop} {s : Shared} (hl : s.heap.get? l = some { cls := .type "list", dict := dd, data := .seq items n, slots := sl })
    (hi : PySem.W.Looks (model prog w) s.heap (isInstance (.ref x) (.type "list")) false) (h : R (.done (.ret .notImplemented)) s) {E : Value → Shared → Prop} : wpAny (model prog w) A (Builtin.«list.__eq__» ⟨[.ref l, .ref x], []⟩) R E s := by
  repeat (first | with_reducible refine hi.here ?_ | wp_step)
  exact h
end
/-- a class that is apart from the built-in ones -/
def bNames : List String := ["list", "tuple", "dict", "int", "str", "NoneType", "bool", "set"]
structure KindO (K : PySem.W.Frag) (C : Addr) : Prop where
  one : ∀ n ∈ bNames, PySem.W.kitOne K (.type n) (.ref C) = some false
  sub : ∀ n ∈ bNames, PySem.W.subIn K (.type n) (.ref C) = some false
  mro : ∀ n ∈ bNames, PySem.W.subIn K (.ref C) (.type n) = some false
section
variable {X : Cx} {k : Nat} {C : Addr}
theorem run_ni {f : Addr} {fd : FuncData} {ps : List Str} {sp : List V → Hp → Prop} {pins : List (Addr × Obj)} {σ : L2.St} {H : Hp} {s : Shared} {us : List Value} {vs : List V} {A : Around} {E : Value → Shared → Prop} (F : FnNi X.prog X.w X.K X.mg X.base k f fd ps sp) (hr : Room k A) (hf : A.frames = X.A.frames)
    (hb : Binds X.K fd ps []) (I : Inv X pins σ H s) (r : Vals vs us) (h : sp vs H) : wpAny (model X.prog X.w) A (call (.ref f) us) (fun v s' => v = .notImplemented ∧ Inv X pins σ H s') E s := by
  have there := I.env0
  have e0 : Env0 X.prog X.w X.K X.mg X.base A X.stack s H := { there with frames := hf.trans there.frames }
  have bound := hb s us I.kIn (by rw [List.append_nil]; exact r.length.symm.trans (F.len _ _ h))
  rw [List.append_nil] at bound
  refine wpAny_call (codeAny_mono (F.run A X.stack s H ⟨us, []⟩ us vs hr e0 bound r h) fun r s' hq => ?_)
  obtain ⟨rfl, os, bare, un, hok⟩ := hq
  obtain ⟨v, H', I', _, _, rfl⟩ := I.after (Q := fun v H' => v = .non ∧ H' = H) (u := Value.none) ⟨.non, H, os, bare, un, hok, rfl, rfl, rfl⟩
  exact ⟨rfl, I'⟩
/-- an object == a list: the object's __eq__ declines -/
def rEqNi (C : Addr) (sp : List V → Hp → Prop) (out : Bool → V) : R2 := fun x y H Q => ∃ a dx fs l xs, x = .ref a ∧ y = .ref l ∧ H a = some (.ins C dx fs) ∧ H l = some (.lst xs) ∧ sp [x, y] H ∧ Q (out false) H
theorem or_eqNi {sp : List V → Hp → Prop} (c : NiMet X.prog X.w X.K X.mg X.base k C "__eq__" sp) (kd : KindO X.K C) {j : Nat} (hr : Room j X.A) (hk : k ≤ j) : OpR X (compareOp .Eq) (rEqNi C sp .bl) := by
  obtain ⟨f, fd, ps, hc, hm, F1, b⟩ := c.ex
  intro pins s σ H x y v u Q I rx ry h
  obtain ⟨a, dx, fs, l, xs, rfl, rfl, ha, hl, h, q⟩ := h
  cases rx
  cases ry
  obtain ⟨mA, J, _⟩ := ins_get I.hok ha
  obtain ⟨od, J, _⟩ := J.look
  obtain ⟨its, rv, hL, _⟩ := I.list (SqL.of hl)
  obtain ⟨⟨cls0, dd0, data0, sl0⟩, ho0, hc0, n0, hd0⟩ := hL.isList
  simp only at hc0 hd0
  subst hc0 hd0
  show wpAny (model X.prog X.w) X.A (richCompare .Eq (.ref a) (.ref l)) _ _ s
  refine eq_ni (R := fun s' => Inv X pins σ H s') (R2 := fun s' => Inv X pins σ H s') hr.units0 I.kIn J (tb := "list") ?_ (kd.sub _ (by decide)) hm.at_ hm.fn ?_ ?_ ?_
  · exact (PySem.W.Looks.ld ho0).andThen .now
  · exact run_ni F1 (hr.mono hk) rfl b I (us := [.ref a, .ref l]) (vs := [.ref a, .ref l]) (.cons rfl (.cons rfl .nil)) h
  · intro s' I'
    obtain ⟨its, rv, hL, _⟩ := I'.list (SqL.of hl)
    obtain ⟨mA, J, _⟩ := ins_get I'.hok ha
    obtain ⟨od, J, _⟩ := J.look
    obtain ⟨⟨cls, dd, data, sl⟩, ho, hc, n, hd⟩ := hL.isList
    simp only at hc hd
    subst hc hd
    refine wpAny_tryCompare_declines ⟨_, ho, rfl⟩ F.slot_list_eq_refl (wpAny_call (codeAny_call_builtin F.slot_list_eq_refl.plain F.entry_list_eq (F.slot_list_eq_refl.check _ _ _ _ _ _ _ _ ⟨_, ho, rfl⟩ (F.args_list_eq_2 _ _) ?_)))
    exact list_ni l a _ n dd sl ho (J.type.andThen (PySem.W.looks_subIn I'.kIn (kd.mro _ (by decide)))) ⟨rfl, rfl, I'⟩
  · intro s' I'
    have ne : a ≠ l := ne_of ha hl (by intro z; cases z)
    obtain ⟨its, rv, hL, _⟩ := I'.list (SqL.of hl)
    obtain ⟨mA, J, _⟩ := ins_get I'.hok ha
    obtain ⟨od, J, _⟩ := J.look
    obtain ⟨o2, ho2, hc2, _⟩ := hL.isList
    exact wpAny_isSame_ref_other ne J.at_ ho2 (by rw [J.cls]; intro z; cases z) ⟨.bl false, H, I', rfl, q⟩
end
end Tr

/-! # try with several clauses, each with or without a name. -/
namespace Tr
open PySem PySem.Spec PyProof.Rows L2
/-- a clause: the class it names, the slot of its name, its suite's reading -/
structure Clz where
  cls : Value
  slot : Option Nat
  ts : Addr → Value → Option Addr → TS
/-- behind the suite the name is gone -/
def goneD (D : Ends) : Option Nat → Ends
  | none => D
  | some i => { nx := fun σ H => D.nx (σ.set i none) H, rt := D.rt, bk := fun σ H => D.bk (σ.set i none) H, ct := fun σ H => D.ct (σ.set i none) H }
def heldS (σ : L2.St) (a : Addr) : Option Nat → L2.St
  | none => σ
  | some i => σ.set i (some (.ref a))
/-- what the clauses wish -/
def wAny (K : PySem.W.Frag) (Wout : WX) (D : Ends) : List Clz → WX
  | [] => Wout
  | z :: r => fun cls d σ H => ∃ b, PySem.W.exmOne K cls z.cls = some b ∧ (b = true → ∀ a, H a = none → z.ts a cls d (goneD D z.slot) (heldS σ a z.slot) H) ∧ (b = false → wAny K Wout D r cls d σ H)
/-- a suite, of any such exception -/
def SuiteOk (X : Cx) (b : List Stmt) (ts : Addr → Value → Option Addr → TS) : Prop :=
  ∀ (a : Addr) (oe : Obj) (cls : Value) (d : Option Addr) (pn : List (Addr × Obj)), Zc cls d oe → (∃ vs, oe.data = .fields vs) → PSs (X.suite a ((a, oe) :: pn)) b (ts a cls d)
inductive ClzOk (X : Cx) : List ExceptHandler → List Clz → Prop
  | nil : ClzOk X [] []
  | bare {x : Str} {c : Value} {ts : Addr → Value → Option Addr → TS} {b : Stmt} {bs : List Stmt} {p q : Pos} {hs : List ExceptHandler} {l : List Clz} (n : Names X x c) (s : SuiteOk X (b :: bs) ts) (r : ClzOk X hs l) :
      ClzOk X (.ExceptHandler (some (.Name x p)) none (b :: bs) q :: hs) (⟨c, none, ts⟩ :: l)
  | named {x y : Str} {i : Nat} {c : Value} {ts : Addr → Value → Option Addr → TS} {b : Stmt} {bs : List Stmt} {p q : Pos} {hs : List ExceptHandler} {l : List Clz} (nd : X.N.Nodup) (hi : X.N[i]? = some y) (hk : X.env.kindOf y = some .local) (n : Names X x c) (s : SuiteOk X (b :: bs) ts) (r : ClzOk X hs l) :
      ClzOk X (.ExceptHandler (some (.Name x p)) (some y) (b :: bs) q :: hs) (⟨c, some i, ts⟩ :: l)
section
variable {X : Cx}
theorem sp_off {pins : List (Addr × Obj)} {D : Ends} {f : Flow} {s : Shared} {pn : List (Addr × Obj)} {xe : Value → Shared → Prop} (ok : X.Ok) (h : SP (X.tr pn xe) [] D f s) (hx : pn = X.pn ++ pins) : SP X pins D f s := by
  subst hx
  cases f with
  | ret u => exact let ⟨v, σ, H, J, r, q⟩ := h; ⟨v, σ, H, J.ofTry ok, r, q⟩
  | next => exact let ⟨σ, H, J, q⟩ := h; ⟨σ, H, J.ofTry ok, q⟩
  | brk => exact let ⟨σ, H, J, q⟩ := h; ⟨σ, H, J.ofTry ok, q⟩
  | cont => exact let ⟨σ, H, J, q⟩ := h; ⟨σ, H, J.ofTry ok, q⟩
/-- the value of a class's name in a suite -/
theorem name_in {x : Str} {c : Value} {np : Pos} {a : Addr} {oe : Obj} {pn pins : List (Addr × Obj)} {σ : L2.St} {H : Hp} {s : Shared} {Q : Value → Shared → Prop} {E : Value → Shared → Prop} (n : Names X x c) (S : Inv (X.suite a ((a, oe) :: pn)) pins σ H s) (q : Q c s) :
    wpAny (model X.prog X.w) (X.A.mark (some (.ref a))) (eval (.Name x np) X.env) Q E s := by
  rcases n with ⟨g, nd, m | ⟨m, v, nn⟩⟩
  · exact ld_glob (X := X.suite a ((a, oe) :: pn)) S g m q nd
  · exact ld_blt (X := X.suite a ((a, oe) :: pn)) S g m v q nn nd
theorem sp_suite {pins : List (Addr × Obj)} {D : Ends} {f : Flow} {s : Shared} {a : Addr} {oe : Obj} (ok : X.Ok) (h : SP (X.suite a ((a, oe) :: (X.pn ++ pins))) [] D f s) : SP X pins D f s := by
  cases f with
  | ret u => exact let ⟨v, σ, H, S, r, q⟩ := h; ⟨v, σ, H, S.unsuite ok, r, q⟩
  | next => exact let ⟨σ, H, S, q⟩ := h; ⟨σ, H, S.unsuite ok, q⟩
  | brk => exact let ⟨σ, H, S, q⟩ := h; ⟨σ, H, S.unsuite ok, q⟩
  | cont => exact let ⟨σ, H, S, q⟩ := h; ⟨σ, H, S.unsuite ok, q⟩
variable {body : List Stmt} {h₀ : ExceptHandler} {hds : List ExceptHandler} {l : List Clz} {pos : Pos} {tb : WX → TS} {Wout : WX}
theorem ps_try_any (st : X.stack = X.env :: X.outer) (fr : X.env.frame = some X.env.locals) (tk : Takes X Wout)
    (hb : ∀ (W : WX) (pn : List (Addr × Obj)) (xe : Value → Shared → Prop), Takes (X.tr pn xe) W → PassesOwn (model X.prog X.w) X.A X.env xe → PSs (X.tr pn xe) body (tb W))
    (cl : ClzOk X (h₀ :: hds) l) : PS X (.Try body (h₀ :: hds) [] [] pos) (fun D σ H => tb (wAny X.K Wout D l) D σ H) := by
  refine ⟨fun pins s σ H D I h => wpAny_Try_except ?_⟩
  have ok := I.ok
  have afr : X.A.frames = some (X.env :: X.outer) := ok.frames.trans (congrArg some st)
  refine wpAny_mono ((hb (wAny X.K Wout D l) (X.pn ++ pins) (fun e s1 => wpAny (model X.prog X.w) X.A (noteFrame e X.env) (fun _ s2 => wpAny (model X.prog X.w) X.A (setFlight e none)
    (fun _ s3 => wpAny (model X.prog X.w) X.A (handleBy e X.env (h₀ :: hds)) (SP X pins D) X.xe s3) X.xe s2) X.xe s1) (fun u s' caught => ?_) PassesOwn.looking).run [] s σ H D (I.toTry _) h) (fun f s1 r => ?_) fun _ _ z => z
  · obtain ⟨a, B, sI, pins', σ1, H1, cls, d, rfl, J1, nb, up, sky, na, os, ag, w⟩ := caught
    have J := J1.ofTry ok
    rw [st] at sky
    refine (show wpAny (model X.prog X.w) X.A (noteFrame (.ref a) X.env) _ _ _ from Sky.land Zc.steady afr fr sky fun h3 fl up3 => ?_)
    obtain ⟨o3, v3, at3, z3, dt3⟩ := fl.there
    have off : a ∉ frs (X.env :: X.outer) := fun hm => by
      obtain ⟨_, o, e, no⟩ := fl.2.2.1.mem hm
      rw [at3] at e
      cases e
      exact no _ dt3
    have off1 : a ≠ X.env.locals := fun z => off (List.mem_filterMap.mpr ⟨X.env, .head _, by rw [fr, z]⟩)
    have off2 : a ∉ X.fs := fun hm => let ⟨e, me, q⟩ := List.mem_filterMap.mp hm; off (List.mem_filterMap.mpr ⟨e, .tail _ me, q⟩)
    have J3 : Inv X pins σ1 H1 { s' with heap := h3 } := J.landed nb fl.1 (up.trans up3) os ag
    have S3 := J3.suite at3 dt3 na off1 off2
    suffices go : ∀ {hs' : List ExceptHandler} {l' : List Clz}, ClzOk X hs' l' → wAny X.K Wout D l' cls d σ1 H1 → wpAny (model X.prog X.w) X.A (handleBy (.ref a) X.env hs') (SP X pins D) X.xe { s' with heap := h3 } from go cl w
    intro hs' l' k
    induction k with
    | nil =>
      intro w
      refine wpAny_handleBy_nil ?_
      obtain ⟨_, _, _, oe, vs, T, _, _, eT, _, dT, fT, _⟩ := id fl
      have away : wpAny (model X.prog X.w) X.A (setFlight (.ref a) X.env.frame) (fun _ s4 => wpAny (model X.prog X.w) X.A (throw (.ref a) : Sem Flow) (SP X pins D) X.xe s4) X.xe { s' with heap := h3 } := by
        rw [fr]
        exact HandSPX.setFlight_upZ fl fun h4 sky4 up4 => wpAny_throw (tk _ _ ⟨a, B, sI, pins, σ1, H1, cls, d, rfl, J, nb, (up.trans up3).trans up4, .inr (.inr (st ▸ sky4)), na, os, ag, w⟩)
      unfold PySem.passOn
      refine wpAny_bind (wpAny_field eT dT fT ?_)
      rw [if_neg (by simp : ¬ ((Value.ref T == Value.none) = true))]
      first
        | exact wpAny_bind away
        | exact wpAny_bind (wpAny_pure (wpAny_bind away))
    | @bare x c ts b bs p q hs2 l2 n su r ih =>
      rintro ⟨y, e, yes, no⟩
      refine wpAny_handleBy_cons (codeAny_handlers_test (name_in n S3 ((PySem.W.exm_one (M := model X.prog X.w) J3.kIn (fun A Q E s k q => wpAny_typeOf_ref (k _ _ at3) (by rw [z3.1]; exact q)) e).here ?_))) (by intro z; cases z)
      cases y with
      | false => exact ih (no rfl)
      | true =>
        refine codeAny_handlers_suite (HandSPX.lands_againZ fl fun h4 fl4 up4 => ?_)
        obtain ⟨o4, v4, at4, z4, dt4⟩ := fl4.there
        have S4 := (J.landed nb fl4.1 ((up.trans up3).trans up4) os ag : Inv X pins σ1 H1 { s' with heap := h4 }).suite at4 dt4 na off1 off2
        exact wpAny_mono ((su a o4 cls d (X.pn ++ pins) z4 ⟨_, dt4⟩).run [] _ _ H1 _ S4 (yes rfl a na)) (fun f s6 r6 => by cases f <;> exact sp_suite ok r6) fun _ _ z => z.elim
    | @named x yn i c ts b bs p q hs2 l2 nd hi hk n su r ih =>
      rintro ⟨y, e, yes, no⟩
      refine wpAny_handleBy_cons (codeAny_handlers_test (name_in n S3 ((PySem.W.exm_one (M := model X.prog X.w) J3.kIn (fun A Q E s k q => wpAny_typeOf_ref (k _ _ at3) (by rw [z3.1]; exact q)) e).here ?_))) (by intro z; cases z)
      cases y with
      | false => exact ih (no rfl)
      | true =>
        refine codeAny_handlers_suite_as (HandSPX.lands_againZ fl fun h4 fl4 up4 => ?_)
        obtain ⟨o4, v4, at4, z4, dt4⟩ := fl4.there
        have S4 := (J.landed nb fl4.1 ((up.trans up3).trans up4) os ag : Inv X pins σ1 H1 { s' with heap := h4 }).suite at4 dt4 na off1 off2
        refine store_ok (X := X.suite a ((a, o4) :: (X.pn ++ pins))) (v := .ref a) S4 nd hi (.inl hk) rfl (fun s5 S5 => ?_) (.inr hk)
        refine wpAny_mono ((su a o4 cls d (X.pn ++ pins) z4 ⟨_, dt4⟩).run [] s5 _ H1 _ S5 (yes rfl a na)) (fun f s6 r6 => ?_) fun _ _ z => z.elim
        cases f with
        | ret u =>
          obtain ⟨v6, σ6, H6, S6, rv, q6⟩ := r6
          exact gone_ok (S6.unsuite ok) nd hi hk fun s7 J7 => ⟨_, _, _, J7, rv, q6⟩
        | next =>
          obtain ⟨σ6, H6, S6, q6⟩ := r6
          exact gone_ok (S6.unsuite ok) nd hi hk fun s7 J7 => ⟨_, _, J7, q6⟩
        | brk =>
          obtain ⟨σ6, H6, S6, q6⟩ := r6
          exact gone_ok (S6.unsuite ok) nd hi hk fun s7 J7 => ⟨_, _, J7, q6⟩
        | cont =>
          obtain ⟨σ6, H6, S6, q6⟩ := r6
          exact gone_ok (S6.unsuite ok) nd hi hk fun s7 J7 => ⟨_, _, J7, q6⟩
  · have r2 := sp_off ok r rfl
    cases f with
    | next => exact wpAny_execs_nil r2
    | ret u => exact r2
    | brk => exact r2
    | cont => exact r2
end
end Tr

/-! # < and > of alike data; the order of triples and of lists of triples. -/
namespace Tr
open PySem PySem.Spec PyProof.Rows L2
def rCmpD (K : PySem.W.Frag) (f : PyData → PyData → Bool) : R2 := fun x y H Q => ∃ d e, Dp K H x d ∧ Dp K H y e ∧ PySem.W.alike d e = true ∧ d ≠ .none ∧ d.depth ≤ 64 ∧ Q (.bl (f d e)) H
section
variable {X : Cx}
theorem op_ltD (hu : X.A.units + 64 < cLine) : OpR X (compareOp .Lt) (rCmpD X.K fun d e => PySem.W.dataLt d e) := by
  intro pins s σ H x y v u Q I rx ry h
  obtain ⟨d, e, hd, he, al, nn, dp, q⟩ := h
  obtain ⟨as, r1⟩ := Dp.reads I d x v hd rx
  obtain ⟨bs, r2⟩ := Dp.reads I e y u he ry
  exact PySem.W.rcLt_alike d e X.A s v u as bs r1 r2 al nn (by omega) _ _ _ _ ⟨.bl _, H, I, rfl, q⟩
theorem op_gtD (hu : X.A.units + 64 < cLine) : OpR X (compareOp .Gt) (rCmpD X.K fun d e => PySem.W.dataLt e d) := by
  intro pins s σ H x y v u Q I rx ry h
  obtain ⟨d, e, hd, he, al, nn, dp, q⟩ := h
  obtain ⟨as, r1⟩ := Dp.reads I d x v hd rx
  obtain ⟨bs, r2⟩ := Dp.reads I e y u he ry
  exact PySem.W.rcGt_alike d e X.A s v u as bs r1 r2 al nn (by omega) _ _ _ _ ⟨.bl _, H, I, rfl, q⟩
end
theorem ix_tupK {X : Cx} (K : PySem.W.Frag) (h : X.K = K := by rfl) : IxR X (rIxT K) := by
  subst h
  exact ix_tup
theorem ix_listK {X : Cx} (K : PySem.W.Frag) (h : X.K = K := by rfl) : IxR X (rIxL K) := by
  subst h
  exact ix_list
abbrev T3 := Int × Int × Int
def t3D (t : T3) : PyData := .tuple [.int t.1, .int t.2.1, .int t.2.2]
/-- the order of triples -/
def lt3 (a b : T3) : Bool := if a.1 = b.1 then (if a.2.1 = b.2.1 then decide (a.2.2 < b.2.2) else decide (a.2.1 < b.2.1)) else decide (a.1 < b.1)
/-- the order of lists of triples -/
def lexT : List T3 → List T3 → Bool
  | [], [] => false
  | [], _ :: _ => true
  | _ :: _, [] => false
  | a :: as, b :: bs => if a = b then lexT as bs else lt3 a b
/-- by the length, then place by place -/
def ltR (a b : List T3) : Bool := if a.length = b.length then lexT a b else decide (a.length < b.length)
theorem lt3_asym {a b : T3} (h : lt3 a b = true) : lt3 b a = false := by
  unfold lt3 at *
  obtain ⟨a1, a2, a3⟩ := a
  obtain ⟨b1, b2, b3⟩ := b
  dsimp only at *
  repeat' split at h
  all_goals repeat' split
  all_goals simp at *
  all_goals omega
theorem lt3_total {a b : T3} (h : a ≠ b) : lt3 a b = true ∨ lt3 b a = true := by
  unfold lt3
  obtain ⟨a1, a2, a3⟩ := a
  obtain ⟨b1, b2, b3⟩ := b
  dsimp only
  have : ¬ (a1 = b1 ∧ a2 = b2 ∧ a3 = b3) := fun ⟨x, y, z⟩ => h (by rw [x, y, z])
  by_cases h1 : a1 = b1
  · by_cases h2 : a2 = b2
    · rw [if_pos h1, if_pos h2, if_pos h1.symm, if_pos h2.symm, decide_eq_true_eq, decide_eq_true_eq]
      omega
    · rw [if_pos h1, if_neg h2, if_pos h1.symm, if_neg fun e => h2 e.symm, decide_eq_true_eq, decide_eq_true_eq]
      omega
  · rw [if_neg h1, if_neg fun e => h1 e.symm, decide_eq_true_eq, decide_eq_true_eq]
    omega
theorem lexT_irr : ∀ a : List T3, lexT a a = false
  | [] => rfl
  | x :: a => by
    unfold lexT
    rw [if_pos rfl]
    exact lexT_irr a
theorem lexT_asym : ∀ {a b : List T3}, lexT a b = true → lexT b a = false
  | [], [], h => rfl
  | [], _ :: _, h => rfl
  | _ :: _, [], h => by cases h
  | x :: a, y :: b, h => by
    unfold lexT at h ⊢
    by_cases e : x = y
    · rw [if_pos e] at h
      rw [if_pos e.symm]
      exact lexT_asym h
    · rw [if_neg e] at h
      rw [if_neg fun z => e z.symm]
      exact lt3_asym h
theorem lexT_total : ∀ {a b : List T3}, a ≠ b → lexT a b = true ∨ lexT b a = true
  | [], [], h => (h rfl).elim
  | [], _ :: _, h => .inl rfl
  | _ :: _, [], h => .inr rfl
  | x :: a, y :: b, h => by
    unfold lexT
    by_cases e : x = y
    · rw [if_pos e, if_pos e.symm]
      exact lexT_total fun z => h (by rw [e, z])
    · rw [if_neg e, if_neg fun z => e z.symm]
      exact lt3_total e
theorem ltR_irr (a : List T3) : ltR a a = false := by
  unfold ltR
  rw [if_pos rfl]
  exact lexT_irr a
theorem ltR_asym {a b : List T3} (h : ltR a b = true) : ltR b a = false := by
  unfold ltR at *
  by_cases e : a.length = b.length
  · rw [if_pos e] at h
    rw [if_pos e.symm]
    exact lexT_asym h
  · rw [if_neg e, decide_eq_true_eq] at h
    rw [if_neg fun z => e z.symm, decide_eq_false_iff_not]
    omega
theorem ltR_total {a b : List T3} (h : a ≠ b) : ltR a b = true ∨ ltR b a = true := by
  unfold ltR
  by_cases e : a.length = b.length
  · rw [if_pos e, if_pos e.symm]
    exact lexT_total h
  · rw [if_neg e, if_neg fun z => e z.symm, decide_eq_true_eq, decide_eq_true_eq]
    omega
/-! ### what the model's comparison tells of such data -/
theorem eqv_t3 (a b : T3) : PyData.eqv (t3D a) (t3D b) = decide (a = b) := by
  obtain ⟨a1, a2, a3⟩ := a
  obtain ⟨b1, b2, b3⟩ := b
  show ((a1 == b1) && ((a2 == b2) && ((a3 == b3) && true))) = _
  rw [Bool.and_true, Bool.eq_iff_iff, Bool.and_eq_true, Bool.and_eq_true, decide_eq_true_eq, beq_iff_eq, beq_iff_eq, beq_iff_eq, Prod.mk.injEq, Prod.mk.injEq]
theorem alike_t3 (a b : T3) : PySem.W.alike (t3D a) (t3D b) = true := by
  unfold t3D
  simp [PySem.W.alike, PySem.W.alikeAll]
theorem alike_t3s : ∀ a b : List T3, PySem.W.alikeAll (a.map t3D) (b.map t3D) = true
  | [], _ => by simp [PySem.W.alikeAll]
  | _ :: _, [] => by simp [PySem.W.alikeAll]
  | x :: a, y :: b => by
    rw [List.map_cons, List.map_cons, PySem.W.alikeAll, alike_t3, alike_t3s a b]
    rfl
theorem lt_t3 (a b : T3) : PySem.W.dataLt (t3D a) (t3D b) = if a = b then false else lt3 a b := by
  obtain ⟨a1, a2, a3⟩ := a
  obtain ⟨b1, b2, b3⟩ := b
  have ei : ∀ x y : Int, PyData.eqv (.int x) (.int y) = decide (x = y) := fun x y => by
    show (x == y) = _
    rw [Bool.eq_iff_iff, beq_iff_eq, decide_eq_true_eq]
  have ai : ∀ x y : Int, PySem.W.alike (.int x) (.int y) = true := fun x y => by simp [PySem.W.alike]
  unfold t3D lt3
  rw [PySem.W.dataLt_tuple, PySem.W.dataLt_cons (ai _ _), PySem.W.dataLt_cons (ai _ _), PySem.W.dataLt_cons (ai _ _), ei, ei, ei, PySem.W.dataLt_int, PySem.W.dataLt_int, PySem.W.dataLt_int]
  dsimp only
  have e0 : PyProof.Rows.lexLt itemOrd (PySem.W.keyToksAll []) (PySem.W.keyToksAll []) = false := lex_irrefl _
  rw [e0]
  by_cases h1 : a1 = b1 <;> by_cases h2 : a2 = b2 <;> by_cases h3 : a3 = b3 <;> simp [h1, h2, h3]
theorem toks_t3 : ∀ a b : List T3, PyProof.Rows.lexLt itemOrd (PySem.W.keyToksAll (a.map t3D)) (PySem.W.keyToksAll (b.map t3D)) = lexT a b
  | [], [] => lex_irrefl _
  | [], y :: b => by
    simp [PySem.W.keyToksAll, lexT, PyProof.Rows.lexLt, itemOrd, itemLt]
  | x :: a, [] => by
    simp [PySem.W.keyToksAll, lexT, PyProof.Rows.lexLt, itemOrd, itemLt]
  | x :: a, y :: b => by
    rw [List.map_cons, List.map_cons, PySem.W.dataLt_cons (alike_t3 x y), eqv_t3, lt_t3, toks_t3 a b]
    rw [show lexT (x :: a) (y :: b) = if x = y then lexT a b else lt3 x y by rw [lexT]]
    by_cases h : x = y
    · rw [decide_eq_true h, if_pos rfl, if_pos h]
    · rw [decide_eq_false h, if_neg Bool.false_ne_true, if_neg h, if_neg h]
end Tr

/-! # o(e, ..), o an object of a class with __call__. -/
namespace Tr
open PySem PySem.Spec PyProof.Rows L2
/-- a method whose function stands in the written part -/
structure MetF (P : Program) (w : World) (K : PySem.W.Frag) (mg : Str → Option Value) (base : Heap) (k : Nat) (C : Addr) (m : Str) (sp : Sp) : Prop where
  ex : ∃ (f : Addr) (fd : FuncData) (ps : List Str), Meth K C m f ∧ PySem.W.fnIn K f = true ∧ FnOk P w K mg base (L2.CX P w) k f fd ps sp ∧ Binds K fd ps []
section
variable {P : Program} {w : World} {K : PySem.W.Frag} {mg : Str → Option Value} {base : Heap}
theorem metF {m qual : Str} {C : Addr} {st : Stmt} {N ps : List Str} {k : Nat} {sp : Sp} (D : Mth K C m qual st) (S : FnScope N ps (defScope st)) (len : ∀ vs H Q E, sp vs H Q E → vs.length = ps.length)
    (hb : ∀ (kV doc pm : Value) (an : Option Addr) (cdv ct : Value) (us : List Value), us.length = ps.length → bindArgs (PySem.W.fnOf m qual (defArgs st) (defBody st) (defScope st) .none kV doc pm an cdv ct) ⟨us, []⟩ = pure (ps.zip us))
    (hbody : ∀ (f : Addr) (cdv : Value) (A : Around) (outer : List Env) (s : Shared) (H : Hp) (vs : List V) (Q : VK) (E : XK), Room k (A.deeper (envOfC qual (defScope st) s.heap.objs.size f cdv)) → sp vs H Q E →
      ∃ t, PSs (cxOf (L2.CX P w) P w K mg base N qual (defScope st) f cdv A outer s H E).nox (defBody st) t ∧ t { nx := fun _ H' => Q .non H', rt := Q } (start N vs) H) : MetF P w K mg base (k + 1) C m sp := by
  obtain ⟨f, fd, M, F⟩ := D.ex
  refine ⟨f, fd, ps, M, ?_, okN F S len (hbody f), F.binds hb⟩
  obtain ⟨oc, od, kV, doc, pm, an, cdv, ct, osl, rfl, lk, hcd⟩ := F.ex
  unfold PySem.W.fnIn
  rw [lk]
end
def tCallO (C : Addr) (sp : Sp) (E : XK) (ta : TE) (t : TA) : TE := fun σ H Q => ta σ H fun x H1 => ∃ a, x = .ref a ∧ t σ H1 fun vs H2 => ∃ dx fs, H2 a = some (.ins C dx fs) ∧ sp (x :: vs) H2 Q E
theorem with_obj {M : Model} {A : Around} {E : Value → Shared → Prop} {s : Shared} {pos : Pos} {x : Addr} {Q : Value → Shared → Prop} {args : List (Bool × Sem Value)} (few : (args.any (·.1)) = false)
    (h : wpAny M A (evalArgs (.ref x) true args []) (fun a s1 => (∃ o, s1.heap.get? x = some o ∧ o.data = .plain) ∧ wpAny M A (call (.ref x) ([] ++ a.pos) a.kw) Q E s1) E s) : wpAny M A (callWith pos (.ref x) [] args []) Q E s := by
  have none_ : (args.any (·.1) || ([] : List (Option Str × Sem Value)).any (·.1.isNone)) = false := by rw [few]; rfl
  unfold callWith
  refine wpAny_bind (wpAny_holding (wpAny_mono h (fun a s1 r => wpAny_bind (wpAny_standAt ?_)) fun _ _ e => e))
  obtain ⟨⟨o, at_, plain⟩, run⟩ := r
  have keeps : PySem.W.Looks M s1.heap (keeperOf (.ref x)) .caller := by
    refine (PySem.W.Looks.ld (part := none) at_).andThen ?_
    simp only [plain]
    exact .now
  simp only [none_]
  refine wpAny_bind (keeps.here ?_)
  exact wpAny_bind (wpAny_mono (wpAny_operateT run) (fun r s2 q => wpAny_bind (wpAny_holding (wpAny_point (wpAny_pure q)))) fun _ _ e => e)
theorem pe_callO {X : Cx} {k j : Nat} {C : Addr} {x : Str} {sp : Sp} {p pos : Pos} {e : Expr} {es : List Expr} {ta : TE} {t : TA} {E : XK} (c : MetF X.prog X.w X.K X.mg X.base k C "__call__" sp) (hr : Room j X.A) (hk : k ≤ j) (hx : Passes (L2.CX X.prog X.w) X E) (he : PE X (.Name x p) ta) (ha : PA X (e :: es) t)
    (hst : starEach (e :: es) X.env = (false, eval e X.env) :: starEach es X.env := by rfl) (hpl : (backTo pos (starEach es X.env)).any (·.1) = false := by rfl) :
    PE X (.Call (.Name x p) (e :: es) [] pos) (tCallO C sp E ta t) := by
  obtain ⟨f, fd, ps, M, fin, F, b⟩ := c.ex
  refine ⟨fun pins s σ H Q I h => ?_⟩
  refine wpAny_Call_Name_kw (thn (he.run pins s σ H _ I h) fun u s1 ⟨v, H1, I1, r1, q1⟩ => ?_)
  obtain ⟨a, rfl, q1⟩ := q1
  cases r1
  have args := ha.run pos pins s1 σ H1 _ I1 q1
  rw [hst] at args ⊢
  refine with_obj (by show (false || (backTo pos (starEach es X.env)).any (·.1)) = false; rw [hpl]; rfl) (Calls.evalArgs_plain (thn args fun us s2 ⟨vs, H2, I2, r2, q2⟩ => ?_))
  obtain ⟨dx, fs, hi, q2⟩ := q2
  obtain ⟨mA, J, _⟩ := ins_get I2.hok hi
  obtain ⟨od, J, _⟩ := J.look
  refine ⟨⟨_, J.at_, rfl⟩, wpAny_call (PySem.W.kco_code I2.kIn J rfl M.at_ M.fn fin ?_)⟩
  have there := I2.env0
  have bound := b s2 (.ref a :: us) I2.kIn (by rw [List.append_nil]; have := F.len _ _ _ _ q2; have := r2.length; simp only [List.length_cons] at *; omega)
  rw [List.append_nil] at bound
  refine codeAny_mono (F.run X.A X.stack s2 H2 ⟨.ref a :: us, []⟩ (.ref a :: us) (.ref a :: vs) Q E (hr.mono hk) { there with frames := there.frames } bound (.cons rfl r2) q2) fun r s' done => ?_
  cases r with
  | error z => exact hx pins σ H2 s2 z s' I2 done
  | ok fl =>
    cases fl with
    | ret u => exact I2.after done
    | next => exact False.elim done
    | brk => exact False.elim done
    | cont => exact False.elim done
end Tr

/-! # A law that makes lambdas: its code object and the table are known; f(lambda: e). -/
namespace Tr
open PySem PySem.Spec PyProof.Rows L2
section
variable {P : Program} {w : World} {K : PySem.W.Frag} {mg : Str → Option Value} {base : Heap}
theorem okT {x qual : Str} {st : Stmt} {f c : Addr} {fd : FuncData} {N ps : List Str} {k : Nat} {sp : Sp} (F : Fun K x qual st f fd) (hc : fd.code = .ref c) (S : FnScope N ps (defScope st)) (len : ∀ vs H Q E, sp vs H Q E → vs.length = ps.length)
    (hbody : ∀ (A : Around) (outer : List Env) (s : Shared) (H : Hp) (vs : List V) (Q : VK) (E : XK), Room k (A.deeper (envOfC qual (defScope st) s.heap.objs.size f (.ref c))) → sp vs H Q E →
      ∃ t, PSs (cxOf (L2.CX P w) P w K mg base N qual (defScope st) f (.ref c) A outer s H E).nox (defBody st) t ∧ t { nx := fun _ H' => Q .non H', rt := Q } (start N vs) H) : FnOk P w K mg base (L2.CX P w) (k + 1) f fd ps sp := by
  obtain ⟨oc, od, kV, doc, pm, an, cdv, ct, osl, rfl, lk, hcd⟩ := F.ex
  obtain rfl : cdv = .ref c := hc
  exact fn_of lk hcd S len fun A outer s H vs Q E hr h =>
    let ⟨t, h1, h2⟩ := hbody A outer s H vs Q E hr h
    ⟨t, h1.nox, h2⟩
end
section
variable {X : Cx}
/-- f(lambda: e), f a def of the module of one parameter -/
theorem pe_lam {T : List (Addr × Str)} {TT : (XK → Hp → VK → Prop) → Hp → VK → Prop} {x a : Str} {st : Stmt} {c Pt : Addr} {k j : Nat} {Ng : List Str} {params : Arguments} {body : Expr} {scope : Scope} {t : XK → TE} {p lpos pos : Pos}
    (D : Dfn X.K X.mg x st) (Sg : FnScope Ng [a] (defScope st)) (hNg : Ng[0]? = some a) (hva : Vis (defScope st) a)
    (hb : ∀ (kV doc pm : Value) (an : Option Addr) (cdv ct : Value) (us : List Value), us.length = [a].length → bindArgs (PySem.W.fnOf x x (defArgs st) (defBody st) (defScope st) .none kV doc pm an cdv ct) ⟨us, []⟩ = pure ([a].zip us))
    (hG : ∀ g cdg, LamX.GivesTo X Ng x (defScope st) g cdg (defBody st) a (X.env.qual ++ "<lambda>") TT) (hg : Gl X x)
    (TB : LamX.TabB X.base X.mg c Pt) (hcode : X.env.code = .ref c) (hmT : (Pt, X.env.qual ++ "<lambda>") ∈ T) (hu : ∀ p ∈ T, p.1 = Pt → p.2 = X.env.qual ++ "<lambda>") (hr : Room j X.A) (hk : k + 2 ≤ j) (L : LamX.LamS X.env.scope scope) (hdef : defaultsOf params X.env = ([], []))
    (hbind : ∀ (q : Str) (cl : List (Str × Addr)) (pm cv ctv : Value), bindArgs (PySem.W.kla_fn "<lambda>" q params body scope cl pm cv ctv) ⟨[], []⟩ = pure [])
    (hbody : ∀ (A : Around) (outer : List Env) (s : Shared) (H : Hp) (E : XK) (f c' : Addr), Room k (A.deeper (LamX.lamEnv X scope s.heap.objs.size f c')) → PE (LamX.lamCx X A outer s H E scope f c') body (t E))
    (hdb : (x == ("__debug__" : Str)) = false := by decide) (hd : (a == ("__debug__" : Str)) = false := by decide) (hcd : (a == ("__classdict__" : Str)) = false := by decide) :
    PE X (.Call (.Name x p) [.Lambda params body scope lpos] [] pos) (LamX.tLam T TT t) := by
  obtain ⟨g, fd, F, hm⟩ := D
  have b := F.binds hb
  have kp := F.kp
  obtain ⟨oc, od, kV, doc, pm, an, cdv, ct, osl, rfl, lk, hcg⟩ := F.ex
  exact LamX.pe_lamcall hg hm kp lk hcg b Sg hNg hva (hG g cdv) TB hcode hmT hu (hr.mono hk) L hdef hbind hbody hdb hd hcd
/-- the same with one table -/
theorem pe_lam1 {TT : (XK → Hp → VK → Prop) → Hp → VK → Prop} {x a q : Str} {st : Stmt} {c Pt : Addr} {k j : Nat} {Ng : List Str} {params : Arguments} {body : Expr} {scope : Scope} {t : XK → TE} {p lpos pos : Pos} (hq : X.env.qual ++ "<lambda>" = q)
    (D : Dfn X.K X.mg x st) (Sg : FnScope Ng [a] (defScope st)) (hNg : Ng[0]? = some a) (hva : Vis (defScope st) a)
    (hb : ∀ (kV doc pm : Value) (an : Option Addr) (cdv ct : Value) (us : List Value), us.length = [a].length → bindArgs (PySem.W.fnOf x x (defArgs st) (defBody st) (defScope st) .none kV doc pm an cdv ct) ⟨us, []⟩ = pure ([a].zip us))
    (hG : ∀ g cdg, LamX.GivesTo X Ng x (defScope st) g cdg (defBody st) a (X.env.qual ++ "<lambda>") TT) (hg : Gl X x)
    (TB : LamX.TabB X.base X.mg c Pt) (hcode : X.env.code = .ref c) (hr : Room j X.A) (hk : k + 2 ≤ j) (L : LamX.LamS X.env.scope scope) (hdef : defaultsOf params X.env = ([], []))
    (hbind : ∀ (q : Str) (cl : List (Str × Addr)) (pm cv ctv : Value), bindArgs (PySem.W.kla_fn "<lambda>" q params body scope cl pm cv ctv) ⟨[], []⟩ = pure [])
    (hbody : ∀ (A : Around) (outer : List Env) (s : Shared) (H : Hp) (E : XK) (f c' : Addr), Room k (A.deeper (LamX.lamEnv X scope s.heap.objs.size f c')) → PE (LamX.lamCx X A outer s H E scope f c') body (t E))
    (hdb : (x == ("__debug__" : Str)) = false := by decide) (hd : (a == ("__debug__" : Str)) = false := by decide) (hcd : (a == ("__classdict__" : Str)) = false := by decide) :
    PE X (.Call (.Name x p) [.Lambda params body scope lpos] [] pos) (LamX.tLam [(Pt, q)] TT t) := by
  subst hq
  exact pe_lam D Sg hNg hva hb hG hg TB hcode List.mem_cons_self (fun p hp _ => by rw [List.mem_singleton.mp hp]) hr hk L hdef hbind hbody hdb hd hcd
/-- try: a() / except CS: return True, and False behind it: what it makes of the lambda's reading -/
def TRef (K : PySem.W.Frag) (CS : Addr) : (XK → Hp → VK → Prop) → Hp → VK → Prop := fun tl H Q =>
  tl (fun cls _ H' => ∃ b, PySem.W.exmOne K cls (.ref CS) = some b ∧ (b = true → Q (.bl true) H') ∧ (b = false → False)) H fun _ H' => Q (.bl false) H'
theorem refuses_gives {Ng : List Str} {x a e q : Str} {sg : Scope} {g CS : Addr} {cdg : Value} {j1 j2 : Nat} {p1 p2 p3 p4 p5 p6 p7 p8 p9 p0 : Pos} (ge : sg.names.lookup e = some .globalImplicit) (me : X.mg e = some (.ref CS)) (de : (e == ("__debug__" : Str)) = false) (h0 : ∀ f : Addr, (L2.start Ng [V.ref f])[0]? = some (some (V.ref f))) :
    LamX.GivesTo X Ng x sg g cdg [.Try [.Expr (.Call (.Name a p1) [] [] p2) p3] [.ExceptHandler (some (.Name e p4)) none [.Return (some (.Constant (.bool true) j1 p5)) p6] p7] [] [] p8, .Return (some (.Constant (.bool false) j2 p9)) p0] a q (TRef X.K CS) := by
  intro f c' s H Q tl act hc h
  refine ⟨_, pss_cons (ps_try_only (X := (cxOf C8.CX0 X.prog X.w X.K X.mg X.base Ng x sg g cdg X.A X.stack s H C8.E0).nox) (c := .ref CS)
      (tb := fun W D σ H => ∃ Ew : XK, (∀ cls d σ' H', Ew cls d H' → W cls d σ' H') ∧ σ[0]? = some (some (.ref f)) ∧ H c' = some (LamX.CodeO c' q) ∧ tl Ew H fun _ H' => D.nx σ H')
      rfl rfl ⟨ge, de, .inl me⟩ LamX.takes0 (fun W pn xe tk _ => ⟨fun pins s' σ H' D I ⟨Ew, wish, h1, h2, h3⟩ => ?_⟩) (fun a oe cls d pn _ _ => pss_one (ps_ret pe_bl))) (pss_one (ps_ret pe_bl)), ?_⟩
  · exact (pss_one (ps_expr (pos := p3) (act W pn xe Ew p1 p2 tk wish))).run pins s' σ H' D I ⟨h1, h2, h3⟩
  · exact ⟨fun cls _ H' => ∃ b, PySem.W.exmOne X.K cls (.ref CS) = some b ∧ (b = true → Q (.bl true) H') ∧ (b = false → False), fun cls d σ' H' ⟨b, e1, e2, e3⟩ => ⟨b, e1, fun hb a _ => e2 hb, fun hb => e3 hb⟩, h0 f, hc, h⟩
end
end Tr

/-! # A class method called in a try; in, not in. -/
namespace Tr
open PySem L2 TL
def tCMethS (C : Addr) (sp : Sp) (E : L2.St → XK) (ta : TE) (t : TA) : TE := fun σ H Q => ta σ H fun x H1 => x = .ref C ∧ t σ H1 fun vs H2 => sp (.ref C :: vs) H2 Q (E σ)
theorem run_fnRS {X : Cx} {pins : List (Addr × Obj)} {σ : L2.St} {H : Hp} {s : Shared} {CX : CXT} {k : Nat} {f : Addr} {sp : Sp} {E : L2.St → XK} {Q : VK} {us : List Value} {vs : List V} (F : FnR X.prog X.w X.K X.mg X.base CX k f sp) (hr : Room k X.A) (hx : PassesAt CX X σ (E σ)) (I : Inv X pins σ H s) (r : Vals vs us) (h : sp vs H Q (E σ)) :
    codeAny (model X.prog X.w) X.A (.call (.ref f) ⟨us, []⟩) (fun r s' => match r with | .ok (.ret v) => EP X pins σ Q v s' | .ok _ => False | .error e => X.xe e s') s := by
  refine codeAny_mono (F X.A X.stack s H us vs Q (E σ) hr I.env0 r h) fun r s' hq => ?_
  cases r with
  | error e => exact hx pins H s e s' I hq
  | ok fl =>
    cases fl with
    | ret u => exact I.after hq
    | next => exact False.elim hq
    | brk => exact False.elim hq
    | cont => exact False.elim hq
theorem run_cmS {X : Cx} {pins : List (Addr × Obj)} {σ : L2.St} {H : Hp} {s : Shared} {CX : CXT} {k : Nat} {C g q : Addr} {sp : Sp} {E : L2.St → XK} {Q : VK} {us : List Value} {vs : List V} (F : FnR X.prog X.w X.K X.mg X.base CX k g sp) (hr : Room k X.A) (hx : PassesAt CX X σ (E σ)) (I : Inv X ((q, PySem.W.methodObj (.ref g) (.ref C)) :: pins) σ H s)
    (r : Vals vs us) (h : sp (.ref C :: vs) H Q (E σ)) : wpAny (model X.prog X.w) X.A (call (.ref q) us) (EP X pins σ Q) X.xe s := by
  have z : wpAny (model X.prog X.w) X.A (call (.ref q) us) (EP X ((q, PySem.W.methodObj (.ref g) (.ref C)) :: pins) σ Q) X.xe s :=
    wpAny_call (PySem.W.method_call (ClX.pin_at I) (run_fnRS (us := .ref C :: us) (vs := .ref C :: vs) F hr hx I (.cons rfl r) h))
  exact thn z fun _ _ y => ClX.unpinE y
/-- C.m(e, ..), m a class method, in a try -/
theorem pe_cmeS {X : Cx} {k j : Nat} {C : Addr} {m : Str} {sp : Sp} {pos apos : Pos} {e o : Expr} {es : List Expr} {ta : TE} {t : TA} {E : L2.St → XK} {pl : Sem Bool} (c : Cme X.prog X.w X.K X.mg X.base k C m sp) (hr : Room j X.A) (hk : k ≤ j) (hx : ∀ σ, PassesAt (L2.CX X.prog X.w) X σ (E σ)) (he : PE X o ta) (ha : PA X (e :: es) t)
    (hst : starEach (e :: es) X.env = (false, eval e X.env) :: starEach es X.env := by rfl) (hpl : (backTo pos (starEach es X.env)).any (·.1) = false := by rfl)
    (ht : eval (.Call (.Attribute o m apos) (e :: es) [] pos) X.env = (do
      let ov ← eval o X.env
      standAt apos.atName
      let (f, first) ← holding [ov] (getMethod ov m pl)
      callWith pos f first (backTo pos (starEach (e :: es) X.env)) (backToKw pos (keywordEach [] X.env))) := by rfl) :
    PE X (.Call (.Attribute o m apos) (e :: es) [] pos) (tCMethS C sp E ta t) := by
  obtain ⟨p, g, r, c, F⟩ := c.ex
  refine ⟨fun pins s σ H Q I h => ?_⟩
  refine PySem.W.methodCall_KW (pl := pl) (thn (he.run pins s σ H _ I h) fun u s1 ⟨x, H1, I1, rx, ex, q⟩ => ?_) ht
  subst ex
  obtain rfl : u = Value.ref C := rx
  refine ClX.getmethcm_ok I1 r c fun s2 I2 => ?_
  refine ClX.callwith_cm I2 (ClX.base_none I1 (Nat.le_refl _)) c.fi (thn (ha.run pos _ s2 σ H1 _ I2 q) fun us s3 ⟨vs, H2, I3, rv, q2⟩ => ⟨⟨ClX.pin_at I3, I3.kIn⟩, ?_⟩) hst hpl
  exact run_cmS F (hr.mono hk) (hx σ) I3 rv q2
theorem units65 {A : Around} {k : Nat} (hr : Room k A) : A.units + 65 < cLine := by
  have := hr.un
  omega
theorem op_notIn_seqK {X : Cx} (K : PySem.W.Frag) (hk : X.K = K := by rfl) : OpR X (compareOp .NotIn) (rIn K true) := by
  subst hk
  exact op_notIn_seq
end Tr

/-! # A binary operator of two own classes; a method with a default, called with keywords. -/
namespace Tr
open PySem PySem.Spec PyProof.Rows L2
/-- what x op y leans on, x of the class C, y of the class D -/
structure TwoOp (K : PySem.W.Frag) (C D : Addr) (nm : String) : Prop where
  hc : PySem.W.selfFirst K C = true
  hd : PySem.W.selfFirst K D = true
  ne : C ≠ D
  rc : ∃ rc, PySem.W.findIn K (.ref C) (dunderR nm) = some rc ∧ (rc = none ∨ ∃ g : Addr, rc = some (.ref g))
  rd : ∃ rc, PySem.W.findIn K (.ref D) (dunderR nm) = some rc ∧ (rc = none ∨ ∃ g : Addr, rc = some (.ref g))
  sub : PySem.W.subIn K (.ref D) (.ref C) = some false
def refB (o : Option (Option Value)) : Bool := match o with
  | some none => true
  | some (some (.ref _)) => true
  | _ => false
theorem refB_ok {o : Option (Option Value)} (h : refB o = true) : ∃ rc, o = some rc ∧ (rc = none ∨ ∃ g : Addr, rc = some (.ref g)) := by
  unfold refB at h
  split at h
  · exact ⟨none, rfl, .inl rfl⟩
  · rename_i g
    exact ⟨_, rfl, .inr ⟨g, rfl⟩⟩
  · cases h
def twoB (c d : Str) (nm : String) (K : PySem.W.Frag) : Bool :=
  PySem.W.selfFirst K (He.ga K c) && (PySem.W.selfFirst K (He.ga K d) && (decide (He.ga K c ≠ He.ga K d) && (refB (PySem.W.findIn K (.ref (He.ga K c)) (dunderR nm)) && (refB (PySem.W.findIn K (.ref (He.ga K d)) (dunderR nm)) &&
    decide (PySem.W.subIn K (.ref (He.ga K d)) (.ref (He.ga K c)) = some false)))))
theorem twoB_ok {c d : Str} {nm : String} {K : PySem.W.Frag} (h : twoB c d nm K = true) : TwoOp K (He.ga K c) (He.ga K d) nm := by
  obtain ⟨h1, h⟩ := He.ba h
  obtain ⟨h2, h⟩ := He.ba h
  obtain ⟨h3, h⟩ := He.ba h
  obtain ⟨h4, h⟩ := He.ba h
  obtain ⟨h5, h6⟩ := He.ba h
  exact ⟨h1, h2, of_decide_eq_true h3, refB_ok h4, refB_ok h5, of_decide_eq_true h6⟩
section
variable {prog : Program} {w : World} {A : Around} {E : Value → Shared → Prop} {s : Shared} {K : PySem.W.Frag} {x y C D L f g f2 : Addr} {h₀ : Heap} {m : Str → Option Value} {ox oy : Obj} {od od' : Option Obj}
theorem binop_two {op : Operator} {Q : Value → Shared → Prop} {R : Shared → Prop} (F : Fr h₀ L s.heap m) (X₀ : K.In h₀) (I : PySem.W.InstAt s.heap x ox C od) (J : PySem.W.InstAt s.heap y oy D od') (t : TwoOp K C D op.info.2)
    (hs : PySem.W.findIn K (.ref C) (PySem.dunder op.info.2) = some (some (.ref f))) (hd : PySem.W.findIn K (.ref D) (PySem.dunder op.info.2) = some (some (.ref g)))
    (h : wpAny (model prog w) A (tryMethod (.ref x) (PySem.dunder op.info.2) (.ref y)) (fun r s' => (∃ v, r = some v ∧ Q v s') ∨ (r = none ∧ R s')) E s)
    (h2 : ∀ s', R s' → PySem.W.Looks (model prog w) s'.heap (typeOf (.ref x)) (.ref C) ∧ PySem.W.Looks (model prog w) s'.heap (typeOf (.ref y)) (.ref D) ∧
      wpAny (model prog w) A (tryMethod (.ref y) (dunderR op.info.2) (.ref x)) (fun r s'' => ∃ v, r = some v ∧ Q v s'') E s') : wpAny (model prog w) A (binaryOp op (.ref x) (.ref y)) Q E s := by
  have X := X₀.keeps F.keep
  obtain ⟨cd, rest, hcd, hm⟩ := PySem.W.ksp_first t.hc
  obtain ⟨cd2, rest2, hcd2, hm2⟩ := PySem.W.ksp_first t.hd
  rcases hi : op.info with ⟨sym, nm'⟩
  have t' := t
  rw [hi] at hs hd h h2 t'
  dsimp only at hs hd h h2 t'
  obtain ⟨rc, rc1, rc2⟩ := t'.rc
  obtain ⟨rd, rd1, rd2⟩ := t'.rd
  have L1 : PySem.W.Looks (model prog w) s.heap (typeOf (.ref x)) (.ref C) := I.type
  have L2 : PySem.W.Looks (model prog w) s.heap (typeOf (.ref y)) (.ref D) := J.type
  have L3 : PySem.W.Looks (model prog w) s.heap (fillsNumberSlot (.ref C) nm') true := PySem.W.fills_K X hcd hm hs
  have L4 : PySem.W.Looks (model prog w) s.heap (fillsNumberSlot (.ref D) nm') true := PySem.W.fills_K X hcd2 hm2 hd
  have L5 : PySem.W.Looks (model prog w) s.heap (isSubtype (.ref D) (.ref C)) false := PySem.W.looks_subIn X t'.sub
  have L6 : PySem.W.Looks (model prog w) s.heap (numberSlotInPython (.ref C) nm') true := PySem.W.ksp_inPy X hs rc1 rc2
  have L7 : PySem.W.Looks (model prog w) s.heap (numberSlotInPython (.ref D) nm') true := PySem.W.ksp_inPy X hd rd1 rd2
  have hne : (Value.ref C == Value.ref D) = false := Bool.eq_false_iff.mpr fun q => t.ne (by cases beq_iff_eq.mp q; rfl)
  simp only [binaryOp, hi]
  refine wpAny_holding (wpAny_bind ?_)
  unfold binaryOp1
  refine wpAny_bind (L1.here (wpAny_bind (L2.here (wpAny_bind (L3.here ?_)))))
  simp only [hne, Bool.false_eq_true, if_false]
  refine wpAny_bind (L4.here ?_)
  simp only [Bool.and_self, if_true]
  refine wpAny_bind (L5.here ?_)
  simp only [Bool.false_eq_true, if_false, Bool.not_false, Bool.and_self, if_true]
  refine wpAny_bind (L6.here ?_)
  simp only [Bool.false_eq_true, if_false, Bool.not_false, Bool.and_self, if_true]
  refine wpAny_bind (L7.here ?_)
  simp only [Bool.false_eq_true, if_false, Bool.not_true, Bool.not_false, Bool.and_self, if_true]
  refine wpAny_bind (wpAny_mono h (fun r s' q => ?_) fun _ _ z => z)
  rcases q with ⟨v, rfl, q⟩ | ⟨rfl, q⟩
  · exact wpAny_pure (wpAny_pure q)
  · obtain ⟨M1, M2, h2⟩ := h2 s' q
    refine wpAny_bind (M1.here (wpAny_bind (M2.here ?_)))
    simp only [hne, Bool.false_eq_true, if_false, Bool.not_false, Bool.and_self, if_true]
    refine wpAny_bind (wpAny_mono h2 (fun r s'' q => ?_) fun _ _ z => z)
    obtain ⟨v, rfl, q⟩ := q
    exact wpAny_bind (wpAny_rule (wpAny_pure (wpAny_pure q)))
end
section
variable {X : Cx} {k k2 k3 : Nat} {C D : Addr} {m m2 : Str} {sp sp2 sp3 : Sp} {E : XK}
/-- x op y by the method of x -/
def rBinD (C D : Addr) (sp : Sp) (E : XK) : R2 := fun x y H Q => ∃ a dx fs b dy gs, x = .ref a ∧ y = .ref b ∧ H a = some (.ins C dx fs) ∧ H b = some (.ins D dy gs) ∧ sp [x, y] H (fun v H' => ∃ z, v = .ref z ∧ Q (.ref z) H') E
theorem or_binD {op : Operator} (c : Met X.prog X.w X.K X.mg X.base k C m sp []) (c2 : Met X.prog X.w X.K X.mg X.base k2 D m sp2 []) (hm : PySem.dunder op.info.2 = m) (t : TwoOp X.K C D op.info.2) {j : Nat} (hr : Room j X.A) (hk : k ≤ j) (hx : Passes (L2.CX X.prog X.w) X E) : OpR X (binaryOp op) (rBinD C D sp E) := by
  subst hm
  obtain ⟨f, fd, ps, ds, hc, hm, F, b, d⟩ := c.ex
  obtain ⟨f2, _, _, _, _, hm2, _, _, _⟩ := c2.ex
  cases d
  intro pins s σ H x y v u Q I rx ry h
  obtain ⟨a, dx, fs, c, dy, gs, rfl, rfl, ha, hc', h⟩ := h
  cases rx
  cases ry
  obtain ⟨mA, J, _⟩ := ins_get I.hok ha
  obtain ⟨mB, J', _⟩ := ins_get I.hok hc'
  obtain ⟨od, J, _⟩ := J.look
  obtain ⟨od', J', _⟩ := J'.look
  obtain ⟨m, hF⟩ := I.fr
  refine binop_two (R := fun _ => False) hF I.ok.mod.kin J J' t hm.at_ hm2.at_ ?_ (fun _ z => z.elim)
  refine wpAny_mono (PySem.W.ksp_try I.kIn J hm.at_ hm.fn (Q := EP X pins σ fun v H' => Q v H') ?_) (fun r s' q => .inl q) fun _ _ z => z
  refine wpAny_mono (run_at F (hr.mono hk) rfl b hx I (us := [.ref a, .ref c]) (vs := [.ref a, .ref c]) (.cons rfl (.cons rfl .nil)) h) (fun r s' q => ?_) fun _ _ z => z
  obtain ⟨z, H', I', rz, b', rfl, q⟩ := q
  cases rz
  exact ⟨.ref b', H', I', rfl, q⟩
/-- x op y by the reflected method of y, the method of x declines -/
def rBinN (C D : Addr) (spN : List V → Hp → Prop) (sp : Sp) (E : XK) : R2 := fun x y H Q => ∃ a dx fs b dy gs, x = .ref a ∧ y = .ref b ∧ H a = some (.ins C dx fs) ∧ H b = some (.ins D dy gs) ∧ spN [x, y] H ∧ sp [y, x] H (fun v H' => ∃ z, v = .ref z ∧ Q (.ref z) H') E
theorem or_binN {op : Operator} {spN : List V → Hp → Prop} (c : NiMet X.prog X.w X.K X.mg X.base k C m spN) (c2 : Met X.prog X.w X.K X.mg X.base k2 D m sp2 []) (c3 : Met X.prog X.w X.K X.mg X.base k3 D m2 sp []) (hm : PySem.dunder op.info.2 = m) (hm2 : dunderR op.info.2 = m2) (t : TwoOp X.K C D op.info.2) {j : Nat} (hr : Room j X.A) (hk : k ≤ j) (hk3 : k3 ≤ j)
    (hx : Passes (L2.CX X.prog X.w) X E) : OpR X (binaryOp op) (rBinN C D spN sp E) := by
  subst hm hm2
  obtain ⟨f, fd, ps, hc, hm, F1, b1⟩ := c.ex
  obtain ⟨f2, _, _, _, _, hm2, _, _, _⟩ := c2.ex
  obtain ⟨f3, fd3, ps3, ds3, hc3, hm3, F, b, d⟩ := c3.ex
  cases d
  intro pins s σ H x y v u Q I rx ry h
  obtain ⟨a, dx, fs, c, dy, gs, rfl, rfl, ha, hc', hn, h⟩ := h
  cases rx
  cases ry
  obtain ⟨mA, J0, _⟩ := ins_get I.hok ha
  obtain ⟨mB, J0', _⟩ := ins_get I.hok hc'
  obtain ⟨od, J, _⟩ := J0.look
  obtain ⟨od', J', _⟩ := J0'.look
  obtain ⟨m, hF⟩ := I.fr
  refine binop_two (R := fun s' => Inv X pins σ H s') hF I.ok.mod.kin J J' t hm.at_ hm2.at_ ?_ (fun s' I' => ?_)
  · unfold tryMethod
    refine wpAny_bind (PySem.W.special_fn I.kIn J hm.at_ (beq_iff_eq.mp hm.fn) (wpAny_mono (run_ni F1 (hr.mono hk) rfl b1 I (us := [.ref a, .ref c]) (vs := [.ref a, .ref c]) (.cons rfl (.cons rfl .nil)) hn) (fun v s' hv => ?_) fun _ _ e => e))
    obtain ⟨rfl, I'⟩ := hv
    exact wpAny_pure (.inr ⟨rfl, I'⟩)
  · obtain ⟨mA', K0, _⟩ := ins_get I'.hok ha
    obtain ⟨mB', K0', _⟩ := ins_get I'.hok hc'
    obtain ⟨od2, K1, _⟩ := K0.look
    obtain ⟨od2', K1', _⟩ := K0'.look
    refine ⟨K1.type, K1'.type, ?_⟩
    refine PySem.W.ksp_try I'.kIn K1' hm3.at_ hm3.fn ?_
    refine wpAny_mono (run_at F (hr.mono hk3) rfl b hx I' (us := [.ref c, .ref a]) (vs := [.ref c, .ref a]) (.cons rfl (.cons rfl .nil)) h) (fun r s' q => ?_) fun _ _ z => z
    obtain ⟨z, H', I'', rz, b', rfl, q⟩ := q
    cases rz
    exact ⟨.ref b', H', I'', rfl, q⟩
end
/-! ### a method with defaults -/
structure MthD (K : PySem.W.Frag) (C : Addr) (m qual : Str) (st : Stmt) (dvs : List V) : Prop where
  cls : Cls K C
  ex : ∃ f fd, Meth K C m f ∧ FunD K m qual (defArgs st) (defBody st) (defScope st) dvs [] f fd
/-- a method that is called with keywords ks behind n positional values (self among them) -/
structure MetK (P : Program) (w : World) (K : PySem.W.Frag) (mg : Str → Option Value) (base : Heap) (k : Nat) (C : Addr) (m : Str) (sp : Sp) (n : Nat) (ks : List Str) (gV : List V → List V → List V) : Prop where
  ex : ∃ (f : Addr) (fd : FuncData) (ps : List Str) (g : List Value → List Value → List Value), Cls K C ∧ Meth K C m f ∧ FnOk P w K mg base (L2.CX P w) k f fd ps sp ∧ KBn K fd ps n ks g gV
/-- o.m(k = v, ..) -/
def tMethK (C : Addr) (m : Str) (nk : Nat) (sp : Sp) (gV : List V → List V → List V) (E : XK) (ta : TE) (tk : TA) : TE := fun σ H Q => ta σ H fun x H1 => ∃ a dx fs, x = .ref a ∧ H1 a = some (.ins C dx fs) ∧ fs.lookup m = none ∧ tk σ H1 fun zs H2 => zs.length = nk ∧ sp (gV [x] zs) H2 Q E
theorem pe_mtk {X : Cx} {k j : Nat} {C : Addr} {m : Str} {sp : Sp} {ks : List Str} {gV : List V → List V → List V} {E : XK} {o : Expr} {ta : TE} {tk : TA} {kws : List Keyword} {apos pos : Pos} {pl : Sem Bool} (c : MetK X.prog X.w X.K X.mg X.base k C m sp 1 ks gV) (hr : Room j X.A) (hk : k ≤ j) (hx : Passes (L2.CX X.prog X.w) X E) (he : PE X o ta) (hkw : PK X kws tk)
    (hall : (backToKw pos (keywordEach kws X.env)).all (·.1.isSome) = true := by rfl) (hks : (backToKw pos (keywordEach kws X.env)).filterMap (·.1) = ks := by rfl) (hpl : ((backTo pos (starEach [] X.env)).any (·.1) || (backToKw pos (keywordEach kws X.env)).any (·.1.isNone)) = false := by rfl)
    (ht : eval (.Call (.Attribute o m apos) [] kws pos) X.env = (do
      let ov ← eval o X.env
      standAt apos.atName
      let (f, first) ← holding [ov] (getMethod ov m pl)
      callWith pos f first (backTo pos (starEach [] X.env)) (backToKw pos (keywordEach kws X.env))) := by rfl) :
    PE X (.Call (.Attribute o m apos) [] kws pos) (tMethK C m ks.length sp gV E ta tk) := by
  obtain ⟨f, fd, ps, g, hc, hm, F, hb⟩ := c.ex
  refine ⟨fun pins s σ H Q I h => ?_⟩
  refine PySem.W.methodCall_KW (pl := pl) (thn (he.run pins s σ H _ I h) fun u s1 ⟨x, H1, I1, rx, a, dx, fs, ex, ea, l, q⟩ => ?_) ht
  subst ex
  obtain rfl : u = Value.ref a := rx
  refine getmeth_ok I1 ea hc hm l ?_
  refine PySem.W.callWith_KW0 (first := [.ref a]) (h₀ := X.base) I.ok.mod.kin hm.kp hall (thn (hkw.run pos pins s1 σ H1 _ I1 q) fun ws s2 ⟨zs, H2, I2, rz, l2, q2⟩ => ⟨I2.kIn, ?_⟩) hpl
  rw [hks]
  exact run_fnN (us := [.ref a]) (vs := [.ref a]) F (hr.mono hk) hb hx I2 (.cons rfl .nil) rz rfl l2 q2
section
variable {P : Program} {w : World} {K : PySem.W.Frag} {mg : Str → Option Value} {base : Heap}
theorem metDN {m qual : Str} {C : Addr} {st : Stmt} {dvs : List V} {N ps : List Str} {k : Nat} {sp : Sp} (D : MthD K C m qual st dvs) (S : FnScope N ps (defScope st)) (len : ∀ vs H Q E, sp vs H Q E → vs.length = ps.length)
    (hbody : ∀ (f : Addr) (cdv : Value) (A : Around) (outer : List Env) (s : Shared) (H : Hp) (vs : List V) (Q : VK) (E : XK), Room k (A.deeper (envOfC qual (defScope st) s.heap.objs.size f cdv)) → sp vs H Q E →
      ∃ t, PSs (cxOf (L2.CX P w) P w K mg base N qual (defScope st) f cdv A outer s H E).nox (defBody st) t ∧ t { nx := fun _ H' => Q .non H', rt := Q } (start N vs) H) :
    ∃ f fd, Cls K C ∧ Meth K C m f ∧ FunD K m qual (defArgs st) (defBody st) (defScope st) dvs [] f fd ∧ FnOk P w K mg base (L2.CX P w) (k + 1) f fd ps sp :=
  let ⟨f, fd, M, F⟩ := D.ex
  ⟨f, fd, D.cls, M, F, F.ok S len fun cdv A outer s H vs Q E hr h =>
    let ⟨t, h1, h2⟩ := hbody f cdv A outer s H vs Q E hr h
    ⟨t, h1.nox, h2⟩⟩
end
end Tr

/-! # Keyword-only parameters; isinstance of a caught error that has fields. -/
namespace Tr
open PySem PySem.Spec PyProof.Rows L2
/-- a def of the module with keyword-only parameters that have constant defaults -/
def DfnK (K : PySem.W.Frag) (mg : Str → Option Value) (x : Str) (st : Stmt) (kws : List (Str × V)) : Prop := ∃ f fd, FunD K x x (defArgs st) (defBody st) (defScope st) [] kws f fd ∧ mg x = some (.ref f)
/-- such a def, called with all its keyword-only parameters written, or without them -/
structure CalK (P : Program) (w : World) (K : PySem.W.Frag) (mg : Str → Option Value) (base : Heap) (k : Nat) (x : Str) (sp : Sp) (dvs : List V) (n : Nat) (ks : List Str) : Prop where
  cal : Cal P w K mg base k x sp dvs
  kw : ∃ (f : Addr) (fd : FuncData) (ps : List Str) (g : List Value → List Value → List Value), FnOk P w K mg base (L2.CX P w) k f fd ps sp ∧ mg x = some (.ref f) ∧ PySem.W.keepIn K (.ref f) = true ∧ KBn K fd ps n ks g (fun vs zs => vs ++ zs)
theorem CalK.mono {P : Program} {w : World} {K : PySem.W.Frag} {mg : Str → Option Value} {base : Heap} {j k n : Nat} {x : Str} {sp : Sp} {dvs : List V} {ks : List Str} (c : CalK P w K mg base j x sp dvs n ks) (h : j ≤ k) : CalK P w K mg base k x sp dvs n ks :=
  ⟨c.cal.mono h, let ⟨f, fd, ps, g, F, r⟩ := c.kw; ⟨f, fd, ps, g, F.mono h, r⟩⟩
section
variable {P : Program} {w : World} {K : PySem.W.Frag} {mg : Str → Option Value} {base : Heap}
theorem calKX {x : Str} {st : Stmt} {kws : List (Str × V)} {N ps ks : List Str} {k n : Nat} {sp : Sp} (D : DfnK K mg x st kws) (S : FnScope N ps (defScope st)) (len : ∀ vs H Q E, sp vs H Q E → vs.length = ps.length) (hk : kws ≠ []) (hn : n + kws.length = ps.length)
    (h0 : ∀ (D : Addr) (doc pm : Value) (an : Option Addr) (cdv ct : Value) (us vs : List Value), us.length = n → vs.length = kws.length → KwChain D ((kws.map (·.1)).zip vs) (bindArgs (PySem.W.fnOf x x (defArgs st) (defBody st) (defScope st) .none (.ref D) doc pm an cdv ct) ⟨us, []⟩) (ps.zip (us ++ vs)))
    (h1 : ∀ (D : Addr) (doc pm : Value) (an : Option Addr) (cdv ct : Value) (us ws : List Value), us.length = n → ws.length = ks.length → bindArgs (PySem.W.fnOf x x (defArgs st) (defBody st) (defScope st) .none (.ref D) doc pm an cdv ct) ⟨us, ks.zip ws⟩ = pure (ps.zip (us ++ ws)))
    (hbody : ∀ (f : Addr) (cdv : Value) (A : Around) (outer : List Env) (s : Shared) (H : Hp) (vs : List V) (Q : VK) (E : XK), Room k (A.deeper (envOfC x (defScope st) s.heap.objs.size f cdv)) → sp vs H Q E →
      ∃ t, PSs (cxOf (L2.CX P w) P w K mg base N x (defScope st) f cdv A outer s H E) (defBody st) t ∧ t { nx := fun _ H' => Q .non H', rt := Q } (start N vs) H) : CalK P w K mg base (k + 1) x sp (kws.map (·.2)) n ks := by
  obtain ⟨f, fd, F, hm⟩ := D
  have ok : FnOk P w K mg base (L2.CX P w) (k + 1) f fd ps sp := F.ok S len (hbody f)
  obtain ⟨ds, hv, hb⟩ := F.binds0 n hk hn h0
  obtain ⟨mv, kb⟩ := F.kbinds0 n ks [] (fun us _ ws => us ++ ws) hk (fun q hq => nomatch hq) (fun a _ b => a.append b) (fun D doc pm an cdv ct us mv ws l1 _ l3 => h1 D doc pm an cdv ct us ws l1 l3)
  exact ⟨⟨f, fd, ps, ds, ok, hm, F.kp, hb, hv⟩, f, fd, ps, _, ok, hm, F.kp, kb⟩
end
/-- f(e, .., k = v, ..) within a try -/
def tKwS (n m : Nat) (sp : Sp) (E : L2.St → XK) (t tk : TA) : TE := fun σ H Q => t σ H fun vs H1 => tk σ H1 fun zs H2 => vs.length = n ∧ zs.length = m ∧ sp (vs ++ zs) H2 Q (E σ)
section
variable {X : Cx} {k j n : Nat} {ks : List Str} {sp : Sp} {dvs : List V} {E : L2.St → XK} {x : Str} {p pos : Pos} {e : Expr} {es : List Expr} {kws : List Keyword} {t tk : TA}
theorem pe_kwS (c : CalK X.prog X.w X.K X.mg X.base k x sp dvs n ks) (hr : Room j X.A) (hle : k ≤ j) (hg : Gl X x) (hx : ∀ σ, PassesAt (L2.CX X.prog X.w) X σ (E σ)) (ha : PA X (e :: es) t) (hkw : PK X kws tk)
    (hall : (backToKw pos (keywordEach kws X.env)).all (·.1.isSome) = true := by rfl) (hks : (backToKw pos (keywordEach kws X.env)).filterMap (·.1) = ks := by rfl)
    (hdb : (x == ("__debug__" : Str)) = false := by decide) (he : starEach (e :: es) X.env = (false, eval e X.env) :: starEach es X.env := by rfl)
    (hpl : ((backTo pos (starEach (e :: es) X.env)).any (·.1) || (backToKw pos (keywordEach kws X.env)).any (·.1.isNone)) = false := by rfl) :
    PE X (.Call (.Name x p) (e :: es) kws pos) (tKwS n ks.length sp E t tk) := by
  obtain ⟨f, fd, ps, g, F, hm, kp, hb⟩ := c.kw
  have F := F.mono hle
  refine ⟨fun pins s σ H Q I h => wpAny_Call_Name_kw (ld_glob I hg hm ?_ hdb)⟩
  refine PySem.W.callWith_KW (h₀ := X.base) I.ok.mod.kin kp hall (thn (ha.run pos pins s σ H _ I h) fun us s1 ⟨vs, H1, I1, r, q⟩ => thn (hkw.run pos pins s1 σ H1 _ I1 q) fun ws s2 ⟨zs, H2, I2, rz, l1, l2, q2⟩ => ⟨I2.kIn, ?_⟩) hpl he
  rw [hks]
  refine wpAny_call (codeAny_mono (F.run X.A X.stack s2 H2 ⟨us, ks.zip ws⟩ (g us ws) (vs ++ zs) Q (E σ) hr I2.env0 (hb.to s2 us ws I2.kIn (r.length.symm.trans l1) (rz.length.symm.trans l2)) (hb.rel r rz) q2) fun z s' hq => ?_)
  match z, hq with
  | .error e, hq => exact hx σ pins H2 s2 e s' I2 hq
  | .ok (.ret u), hq => exact I2.after hq
  | .ok .next, hq => exact hq.elim
  | .ok .brk, hq => exact hq.elim
  | .ok .cont, hq => exact hq.elim
end
/-! ### isinstance(e, C), e a caught error with fields -/
section
variable {prog : Program} {w : World} {A : Around} {E : Value → Shared → Prop} {s : Shared} {F : PySem.W.Frag} {a D : Addr} {o : Obj} {dd : Option Obj}
open PySem.W PySem.Calls in
theorem exc_class {Q : Option Value → Shared → Prop} (T : ExcC F D) (X : F.In s.heap) (I : PySem.W.InstAt s.heap a o D dd) (h : Q (some (.ref D)) { s with toks := s.toks + 1 }) : wpAny (model prog w) A (getAttr? (.ref a) "__class__") Q E s := by
  have hf : PySem.W.findObj F D dd "__class__" = some (.bind (.builtin "getset_descriptor.__get__") (.builtin "object.__class__")) := by
    obtain ⟨cd, hc, _⟩ := any_some T.hd
    unfold PySem.W.findObj
    rw [show PySem.W.clsIn F D = some cd from hc, Option.bind_some, T.ha, Option.bind_some]
    show ((PySem.W.specialIn F (.builtin "object.__class__") "__get__").bind _) = _
    rw [T.hn, Option.bind_some]
    show ((PySem.W.takesIn F (.builtin "object.__class__")).bind _) = _
    rw [T.ht]
    rfl
  obtain ⟨hp, g, d, t, os⟩ := s
  have L0 := I.type (M := model prog w)
  have La := looks_findIn (M := model prog w) X T.hg
  have Lb := looks_findIn (M := model prog w) X T.hk
  have Lc := looks_find (M := model prog w) X I hf
  have own : Looks (model prog w) hp (isInstance (.ref a) (.type "BaseException")) true := L0.andThen (looks_subIn X T.hs)
  have ne : (onTheHeap (Value.ref D) && Value.builtin "BaseException.__getattribute__" == Value.builtin "object.__getattribute__") = false := by
    rw [show (Value.builtin "BaseException.__getattribute__" == Value.builtin "object.__getattribute__") = false by decide +kernel] <;> rfl
  unfold getAttr? getAttrBy? getAttrBy
  refine wpAny_bind (wpAny_mkText (wpAny_bind (wpAny_attempt (wpAny_holding (wpAny_bind (L0.at (wpAny_bind (La.at ?_))))))))
  show wpAny _ _ (ite ((onTheHeap (Value.ref D) && Value.builtin "BaseException.__getattribute__" == Value.builtin "object.__getattribute__") = true) _ _) _ _ _
  rw [ne, if_neg (by decide)]
  unfold getAttrByItsOwn hookBefore
  refine wpAny_bind (by
    rw [if_pos (show onTheHeap (Value.ref D) = true from rfl)]
    refine Lb.at (wpAny_bind (wpAny_attempt (wpAny_holding ?_)))
    unfold callGetattribute
    rw [show (false && onTheHeap (Value.builtin "BaseException.__getattribute__")) = false from rfl, if_neg (by decide)]
    unfold boundAndCalled
    rw [PySem.F.excAttr_ValueError.ga.bind (.ref a)]
    refine wpAny_bind (wpAny_pure (wpAny_call (codeAny_call_builtin PySem.F.excAttr_ValueError.ga.plain PySem.F.entry_bexc_ga ?_)))
    refine @check_slot (model prog w) _ _ ⟨hp, g, d, t + 1, os⟩ "BaseException.__getattribute__" "BaseException" "__getattribute__" (.ref a) [.str "__class__" t] [] _ (by decide +kernel) (by decide +kernel) own (PySem.F.args_bexc_ga (.ref a) (.str "__class__" t)) ?_
    unfold Builtin.«object.__getattribute__»
    refine wpAny_bind (wpAny_of_eq (a := ((Value.ref a : Value), [Value.str "__class__" t])) (by first | rfl | (simp only [slotArgs]; rfl)) (wpAny_bind (wpAny_pure (wpAny_bind (L0.at (wpAny_bind (Lc.at ?_)))))))
    show wpAny _ _ (holding [Value.builtin "object.__class__"] (call (.builtin "getset_descriptor.__get__") [.builtin "object.__class__", .ref a, .ref D]) >>= ret) _ _ _
    refine wpAny_bind (wpAny_holding (wpAny_call (class_get (s := ⟨hp, g, d, t + 1, os⟩) (ox := o) (od := dd) X I T.hm (wpAny_pure ?_))))
    show wpAny _ _ (handedOut (.ref D)) _ _ _
    rw [handedOut_of (v := .ref D) rfl]
    first
      | exact wpAny_pure (wpAny_pure h)
      | exact wpAny_pure h
      | exact wpAny_pure (wpAny_bind (wpAny_pure (wpAny_pure h))))
open PySem.W in
theorem exc_kit (T : ExcC F D) : PySem.W.KitX F (.ref a) (.ref D) (fun h => PySem.W.InstAt h a o D dd) := by
  obtain ⟨cd, hc, _⟩ := any_some T.hd
  obtain ⟨c', d', sl', ho⟩ : ∃ c' d' sl', F.lookup D = some ⟨c', d', .cls cd, sl'⟩ := by
    unfold PySem.W.clsIn at hc
    split at hc
    · rename_i c' d' cd' sl' ho
      cases hc
      exact ⟨_, _, _, ho⟩
    · cases hc
  exact {
    ty := fun _ _ _ I => I.type
    it := fun _ _ X _ A' Q' E' s' k q => by
      unfold isType loadHead
      exact wpAny_bind (wpAny_loadPart (k _ _ (X _ _ ho)) (wpAny_pure q))
    ne := fun h tp dd its n sl X htp => Bool.eq_false_iff.mpr fun q => by
      cases Value.ref.inj (beq_iff_eq.mp q)
      cases (X _ _ ho).symm.trans htp
    ca := fun X I k => exc_class T X I k }
end
theorem excC_of {K : PySem.W.Frag} {C : Addr} (x : XfC K C) (o : IsO K C) : ExcC K C := ⟨x.ga, x.gg, x.exC, x.hdC, o.ha, o.hn, o.ht, o.hm⟩
def rIsX (K : PySem.W.Frag) (a : Addr) (cls : Value) (d : Option Addr) (C : Addr) : List V → Hp → VK → Prop := fun xs H Q => ∃ (c : V) (cv : Value) (b : Bool) (dd : Addr) (fs : List (Str × V)), xs = [.ref a, c] ∧ cls = .ref C ∧ d = some dd ∧ H dd = some (.xd fs) ∧ (∀ u, RelV c u → u = cv) ∧ PySem.W.kitOne K (.ref C) cv = some b ∧ Q (.bl b) H
theorem call_isX {X : Cx} {a C : Addr} {oe : Obj} {cls : Value} {d : Option Addr} {pn : List (Addr × Obj)} (T : ExcC X.K C) (hz : Zc cls d oe) (hf : ∃ vs, oe.data = .fields vs) : CallR (X.suite a ((a, oe) :: pn)) (.builtin "isinstance") (rIsX X.K a cls d C) := by
  intro pins s σ H xs us Q I r ⟨c, cv, b, dd, fs, ex, ec, ed, hx, hcv, e, q⟩
  subst ex ec ed
  match us, r with
  | [_, _], .cons rx (.cons rt .nil) =>
    cases rx
    cases hcv _ rt
    obtain ⟨ha, _⟩ := I.pin (a, oe) (List.mem_append_left _ List.mem_cons_self)
    obtain ⟨vs, hd⟩ := hf
    obtain ⟨mA, hns, _⟩ := (show ObjOk X.prog X.w H s.heap dd (.xd fs) from I.hok dd _ hx)
    obtain ⟨od, ho, _⟩ := lookIn_ns hns
    have J : PySem.W.InstAt s.heap a oe C (some od) := ⟨ha, hz.1, by unfold PySem.W.notCls; rw [hd] <;> rfl, by rw [hz.2]; exact ho⟩
    exact PySem.W.kia_one (exc_kit T) I.kIn J e (fun z => nomatch z) fun tk => ⟨.bl b, H, I.kept (t' := tk) fun _ _ z => z, rfl, q⟩
end Tr

/-! # A class whose making may raise; no own class for a built-in thing. -/
namespace Tr
open PySem PySem.Spec PyProof.Rows L2
section
variable {P : Program} {w : World} {K : PySem.W.Frag} {mg : Str → Option Value} {base : Heap}
theorem makX {x qual : Str} {C : Addr} {st : Stmt} {n : Nat} {N ps : List Str} {k : Nat} {sp : Sp} (D : Ini K mg x qual C st n) (S : FnScope N ps (defScope st)) (len : ∀ vs H Q E, sp vs H Q E → vs.length = ps.length)
    (hb : ∀ dvs f fd, dvs.length = n → FunD K "__init__" qual (defArgs st) (defBody st) (defScope st) dvs [] f fd → Binds K fd ps [])
    (hbody : ∀ (f : Addr) (cdv : Value) (A : Around) (outer : List Env) (s : Shared) (H : Hp) (vs : List V) (Q : VK) (E : XK), Room k (A.deeper (envOfC qual (defScope st) s.heap.objs.size f cdv)) → sp vs H Q E →
      ∃ t, PSs (cxOf (L2.CX P w) P w K mg base N qual (defScope st) f cdv A outer s H E) (defBody st) t ∧ t { nx := fun _ H' => Q .non H', rt := Q } (start N vs) H) : Mak P w K mg base (k + 1) x C sp [] :=
  let ⟨f, fd, dvs, M, hm, F, hl⟩ := D.ex
  ⟨f, fd, ps, [], M, F.ok S len (hbody f), hm, hb dvs f fd hl F, .nil⟩
end
/-- a thing of a built-in class is no instance of an own one -/
theorem kit_int {K : PySem.W.Frag} {C D : Addr} (h : PySem.W.kitOne K (.ref C) (.ref D) = some false) : PySem.W.kitOne K (.type "int") (.ref D) = some false := by
  unfold PySem.W.kitOne PySem.W.kitCls at h
  unfold PySem.W.kitOne PySem.W.kitCls
  dsimp only at h ⊢
  split at h
  · cases h
  split at h
  · rename_i z
    rw [if_neg (by intro q; cases q), if_pos z]
    rfl
  · cases h
end Tr

/-! # Static methods with *args; enumerate and index of a list or tuple. -/
namespace Tr
open PySem PySem.Spec PyProof.Rows L2
/-- a static method that may be called, told by its call alone -/
structure StaR (P : Program) (w : World) (K : PySem.W.Frag) (mg : Str → Option Value) (base : Heap) (k : Nat) (C : Addr) (m : Str) (sp : Sp) : Prop where
  ex : ∃ (p g : Addr), SMet K C m p g ∧ FnR P w K mg base (L2.CX P w) k g sp
def spStar (sp : Sp) : Sp := fun vs H Q E => vs.length ≤ sizeLine ∧ ∀ p, H p = none → sp [V.ref p] (upd H p (.tup vs)) Q E
section
variable {P : Program} {w : World} {K : PySem.W.Frag} {mg : Str → Option Value} {base : Heap}
theorem staR {m qual : Str} {C : Addr} {st : Stmt} {N : List Str} {pv : Str} {k : Nat} {sp : Sp} (D : Smt K C m qual st) (S : FnScope N [pv] (defScope st))
    (h0 : ∀ (kV doc pm : Value) (an : Option Addr) (cdv ct : Value), bindArgs (PySem.W.fnOf m qual (defArgs st) (defBody st) (defScope st) .none kV doc pm an cdv ct) ⟨[], []⟩ = (newTuple [] >>= fun t => pure [(pv, t)]))
    (h1 : ∀ (kV doc pm : Value) (an : Option Addr) (cdv ct : Value) (r : Value) (rs : List Value), bindArgs (PySem.W.fnOf m qual (defArgs st) (defBody st) (defScope st) .none kV doc pm an cdv ct) ⟨r :: rs, []⟩ = (newTuple (r :: rs) >>= fun t => pure [(pv, t)]))
    (hbody : ∀ (f : Addr) (cdv : Value) (A : Around) (outer : List Env) (s : Shared) (H : Hp) (vs : List V) (Q : VK) (E : XK), Room k (A.deeper (envOfC qual (defScope st) s.heap.objs.size f cdv)) → sp vs H Q E →
      ∃ t, PSs (cxOf (L2.CX P w) P w K mg base N qual (defScope st) f cdv A outer s H E) (defBody st) t ∧ t { nx := fun _ H' => Q .non H', rt := Q } (start N vs) H) : StaR P w K mg base (k + 1) C m (spStar sp) := by
  obtain ⟨p, g, fd, M, F⟩ := D.ex
  obtain ⟨oc, od, kV, doc, pm, an, cdv, ct, osl, rfl, lk, hcd⟩ := F.ex
  refine ⟨p, g, M, FnR.imp (StX.fn_star (ps := []) lk hcd S StX.cxUp (fun us rest hl => ?_) (fun A outer s H vs Q E hr h => hbody g cdv A outer s H vs Q E hr h)) fun vs H Q E ⟨hz, q⟩ => ⟨[], vs, rfl, rfl, hz, q⟩⟩
  cases us with
  | cons _ _ => cases hl
  | nil =>
    cases rest with
    | nil => exact h0 kV doc pm an cdv ct
    | cons r rs => exact h1 kV doc pm an cdv ct r rs
theorem staX {m qual : Str} {C : Addr} {st : Stmt} {N ps : List Str} {k : Nat} {sp : Sp} (D : Smt K C m qual st) (S : FnScope N ps (defScope st)) (len : ∀ vs H Q E, sp vs H Q E → vs.length = ps.length)
    (hb : ∀ (kV doc pm : Value) (an : Option Addr) (cdv ct : Value) (us : List Value), us.length = ps.length → bindArgs (PySem.W.fnOf m qual (defArgs st) (defBody st) (defScope st) .none kV doc pm an cdv ct) ⟨us, []⟩ = pure (ps.zip us))
    (hbody : ∀ (f : Addr) (cdv : Value) (A : Around) (outer : List Env) (s : Shared) (H : Hp) (vs : List V) (Q : VK) (E : XK), Room k (A.deeper (envOfC qual (defScope st) s.heap.objs.size f cdv)) → sp vs H Q E →
      ∃ t, PSs (cxOf (L2.CX P w) P w K mg base N qual (defScope st) f cdv A outer s H E) (defBody st) t ∧ t { nx := fun _ H' => Q .non H', rt := Q } (start N vs) H) : Sta P w K mg base (k + 1) C m sp :=
  let ⟨p, g, fd, M, F⟩ := D.ex
  ⟨p, g, fd, ps, M, F.okX S len (hbody g), F.binds hb⟩
end
section
variable {X : Cx} {k j : Nat} {C : Addr} {m : Str} {sp : Sp} {p pos apos : Pos} {e o : Expr} {es : List Expr} {ta : TE} {t : TA} {E : XK}
theorem pe_staR {pl : Sem Bool} (c : StaR X.prog X.w X.K X.mg X.base k C m sp) (hr : Room j X.A) (hk : k ≤ j) (hx : Passes (L2.CX X.prog X.w) X E) (he : PE X o ta) (ha : PA X (e :: es) t)
    (hst : starEach (e :: es) X.env = (false, eval e X.env) :: starEach es X.env := by rfl) (hpl : (backTo pos (starEach es X.env)).any (·.1) = false := by rfl)
    (ht : eval (.Call (.Attribute o m apos) (e :: es) [] pos) X.env = (do
      let ov ← eval o X.env
      standAt apos.atName
      let (f, first) ← holding [ov] (getMethod ov m pl)
      callWith pos f first (backTo pos (starEach (e :: es) X.env)) (backToKw pos (keywordEach [] X.env))) := by rfl) :
    PE X (.Call (.Attribute o m apos) (e :: es) [] pos) (tSta C sp E ta t) := by
  obtain ⟨p, g, M, F⟩ := c.ex
  refine ⟨fun pins s σ H Q I h => ?_⟩
  refine PySem.W.methodCall_KW (pl := pl) (thn (he.run pins s σ H _ I h) fun u s1 ⟨x, H1, I1, rx, ex, q⟩ => ?_) ht
  subst ex
  obtain rfl : u = Value.ref C := rx
  refine getsm_ok I1 M fun s2 I2 => ?_
  refine PySem.W.callWith_K (first := []) (h₀ := X.base) I.ok.mod.kin M.kp (thn (ha.run pos pins s2 σ H1 _ I2 q) fun us s3 ⟨vs, H2, I3, r, q2⟩ => ⟨I3.kIn, ?_⟩) hst hpl
  exact wpAny_call (run_fnR (F.mono hk) hr hx I3 r q2)
theorem pe_staR0 {pl : Sem Bool} (c : StaR X.prog X.w X.K X.mg X.base k C m sp) (hr : Room j X.A) (hk : k ≤ j) (hx : Passes (L2.CX X.prog X.w) X E) (he : PE X o ta)
    (ht : eval (.Call (.Attribute o m apos) [] [] pos) X.env = (do
      let ov ← eval o X.env
      standAt apos.atName
      let (f, first) ← holding [ov] (getMethod ov m pl)
      callWith pos f first (backTo pos (starEach [] X.env)) (backToKw pos (keywordEach [] X.env))) := by rfl) :
    PE X (.Call (.Attribute o m apos) [] [] pos) (tSta C sp E ta tNil) := by
  obtain ⟨p, g, M, F⟩ := c.ex
  refine ⟨fun pins s σ H Q I h => ?_⟩
  refine PySem.W.methodCall_KW (pl := pl) (thn (he.run pins s σ H _ I h) fun u s1 ⟨x, H1, I1, rx, ex, q⟩ => ?_) ht
  subst ex
  obtain rfl : u = Value.ref C := rx
  refine getsm_ok I1 M fun s2 I2 => ?_
  exact PySem.W.callWith_K0 (first := []) I2.kIn M.kp (wpAny_call (run_fnR (F.mono hk) hr hx I2 .nil q))
end
/-- x[i], x a list or a tuple -/
def rIxE (K : PySem.W.Frag) : R2 := fun x y H Q => ∃ p xs i v, x = .ref p ∧ y = .int i ∧ (SqL K H p xs ∨ SqT K H p xs) ∧ atI xs i = some v ∧ Q v H
theorem ix_sq {X : Cx} (K : PySem.W.Frag) (h : X.K = K := by rfl) : IxR X (rIxE K) := by
  subst h
  intro value slice pins s σ H x y v u Q I rx ry hh hs
  obtain ⟨p, xs, i, z, e1, e2, hq, he, q⟩ := hh
  rcases hq with hq | hq
  · exact ix_list value slice pins s σ H x y v u Q I rx ry ⟨p, xs, i, z, e1, e2, hq, he, q⟩ hs
  · exact ix_tup value slice pins s σ H x y v u Q I rx ry ⟨p, xs, i, z, e1, e2, hq, he, q⟩ hs
/-- enumerate(x), x a list or a tuple -/
def iEnS (K : PySem.W.Frag) (ta : TA) : TI := fun σ H R => iEnum K ta σ H R ∨ iEnumT K ta σ H R
theorem pi_enS {X : Cx} (K : PySem.W.Frag) {e : Expr} {ta : TA} {p pos tpos : Pos} {elts : List Expr} {kk : Nat} (hg : Gl X "enumerate") (hm : X.mg "enumerate" = none) (ha : PA X [e] ta) (hs : starEach [e] X.env = [(false, eval e X.env)] := by rfl) (h : X.K = K := by rfl) :
    PI X (.Tuple elts kk tpos) (.Call (.Name "enumerate" p) [e] [] pos) (iEnS K ta) := by
  subst h
  exact pi_or (pi_enum hg hm ha hs) (pi_enumT hg hm ha hs)
/-- a pair (i, x) is given -/
def YEn (xs : List V) : Nat → Hp → V → Hp → Prop := fun i H x H' => ∃ T z, x = .ref T ∧ H T = none ∧ H' = upd H T (.tup [.int (i : Nat), z]) ∧ xs[i]? = some z
theorem walk_enL {K : PySem.W.Frag} {a : Addr} {xs : List V} : Walk (Ite K a) xs.length (fun H => SqL K H a xs) (YEn xs) :=
  ⟨fun i _ hi q => ⟨xs, xs[i], q, by simp [hi]⟩, fun _ q => ⟨xs, q, Nat.le_refl _⟩, fun i H x H' hi q y => by
    obtain ⟨T, z, rfl, nT, rfl, y⟩ := y
    exact ⟨T, z, rfl, nT, rfl, y xs q⟩⟩
theorem walk_enT {K : PySem.W.Frag} {a : Addr} {xs : List V} : Walk (IteT K a) xs.length (fun H => SqT K H a xs) (YEn xs) :=
  ⟨fun i _ hi q => ⟨xs, xs[i], q, by simp [hi]⟩, fun _ q => ⟨xs, q, rfl⟩, fun i H x H' hi q y => by
    obtain ⟨T, z, rfl, nT, rfl, y⟩ := y
    exact ⟨T, z, rfl, nT, rfl, y xs q⟩⟩
theorem iEnS_at {K : PySem.W.Frag} {ta : TA} {σ : L2.St} {H : Hp} {R : It → Hp → Prop} {a : Addr} {xs : List V} (hte : ∀ Q : List V → Hp → Prop, Q [.ref a] H → ta σ H Q) (h : SqL K H a xs ∨ SqT K H a xs)
    (hR : ∀ (J : It) (G : Hp → Prop), (∀ H', Same H H' → G H') → Walk J xs.length G (YEn xs) → R J H) : iEnS K ta σ H R := by
  rcases h with h | h
  · exact .inl (hte _ ⟨a, xs, rfl, h, hR _ _ (fun H' s => s.seq h) walk_enL⟩)
  · exact .inr (hte _ ⟨a, xs, rfl, h, hR _ _ (fun H' s => s.seqT h) walk_enT⟩)
end Tr

/-! # The classes of errors, all at once. -/
namespace Tr
open PySem PySem.Spec PyProof.Rows L2
/-- classes of errors that are apart, all below one and below ValueError -/
structure ErrTab (K : PySem.W.Frag) (ns : List Str) (top : Str) : Prop where
  kit : ∀ i j, i < ns.length → j < ns.length → PySem.W.kitOne K (.ref (He.ga K (ns.getD i ""))) (.ref (He.ga K (ns.getD j ""))) = some (decide (i = j))
  exm : ∀ i j, i < ns.length → j < ns.length → PySem.W.exmOne K (.ref (He.ga K (ns.getD i ""))) (.ref (He.ga K (ns.getD j ""))) = some (decide (i = j))
  up : ∀ i, i < ns.length → PySem.W.exmOne K (.ref (He.ga K (ns.getD i ""))) (.ref (He.ga K top)) = some true
  ve : ∀ i, i < ns.length → PySem.W.kitOne K (.ref (He.ga K (ns.getD i ""))) (.type "ValueError") = some true
def errTabB (ns : List Str) (top : Str) (K : PySem.W.Frag) : Bool := (List.range ns.length).all fun i =>
  decide (PySem.W.exmOne K (.ref (He.ga K (ns.getD i ""))) (.ref (He.ga K top)) = some true) && (decide (PySem.W.kitOne K (.ref (He.ga K (ns.getD i ""))) (.type "ValueError") = some true) &&
    (List.range ns.length).all fun j => decide (PySem.W.kitOne K (.ref (He.ga K (ns.getD i ""))) (.ref (He.ga K (ns.getD j ""))) = some (Nat.beq i j)) && decide (PySem.W.exmOne K (.ref (He.ga K (ns.getD i ""))) (.ref (He.ga K (ns.getD j ""))) = some (Nat.beq i j)))
theorem errTabB_ok {ns : List Str} {top : Str} {K : PySem.W.Frag} (h : errTabB ns top K = true) : ErrTab K ns top := by
  have bq : ∀ i j : Nat, Nat.beq i j = decide (i = j) := fun i j => by
    rw [Bool.eq_iff_iff, Nat.beq_eq, decide_eq_true_eq]
  unfold errTabB at h
  rw [List.all_eq_true] at h
  have one : ∀ i, i < ns.length → _ := fun i hi => h i (List.mem_range.mpr hi)
  have two : ∀ i j, i < ns.length → j < ns.length → PySem.W.kitOne K (.ref (He.ga K (ns.getD i ""))) (.ref (He.ga K (ns.getD j ""))) = some (decide (i = j)) ∧ PySem.W.exmOne K (.ref (He.ga K (ns.getD i ""))) (.ref (He.ga K (ns.getD j ""))) = some (decide (i = j)) := fun i j hi hj => by
    have h1 := one i hi
    rw [Bool.and_eq_true, Bool.and_eq_true, List.all_eq_true] at h1
    have h2 := h1.2.2 j (List.mem_range.mpr hj)
    rw [Bool.and_eq_true, decide_eq_true_eq, decide_eq_true_eq, bq] at h2
    exact h2
  refine ⟨fun i j hi hj => (two i j hi hj).1, fun i j hi hj => (two i j hi hj).2, fun i hi => ?_, fun i hi => ?_⟩
  · have h1 := one i hi
    rw [Bool.and_eq_true, decide_eq_true_eq] at h1
    exact h1.1
  · have h1 := one i hi
    rw [Bool.and_eq_true, Bool.and_eq_true, decide_eq_true_eq, decide_eq_true_eq] at h1
    exact h1.2.1
/-! ### a caught error handed to a def -/
section
variable {X : Cx} {a : Addr} {oe : Obj} {cls : Value} {d : Option Addr}
/-- what is known of a caught error -/
def ExcAt (K : PySem.W.Frag) (H : Hp) (cls : Value) (d : Option Addr) (C : Addr) : Prop := cls = .ref C ∧ ExcC K C ∧ (d = none ∨ ∃ dd fs, d = some dd ∧ H dd = some (.xd fs))
def rIsA (K : PySem.W.Frag) (a : Addr) (cls : Value) (d : Option Addr) : List V → Hp → VK → Prop := fun xs H Q => ∃ (C : Addr) (c : V) (cv : Value) (b : Bool), xs = [.ref a, c] ∧ ExcAt K H cls d C ∧ (∀ u, RelV c u → u = cv) ∧ PySem.W.kitOne K (.ref C) cv = some b ∧ Q (.bl b) H
theorem call_isA (K : PySem.W.Frag) (hp : (a, oe) ∈ X.pn) (hz : Zc cls d oe) (hf : ∃ vs, oe.data = .fields vs) (hk : X.K = K := by rfl) : CallR X (.builtin "isinstance") (rIsA K a cls d) := by
  subst hk
  intro pins s σ H xs us Q I r ⟨C, c, cv, b, ex, ⟨ec, T, ed⟩, hcv, e, q⟩
  subst ex ec
  match us, r with
  | [_, _], .cons rx (.cons rt .nil) =>
    cases rx
    cases hcv _ rt
    obtain ⟨ha, _⟩ := I.pin (a, oe) (List.mem_append_left _ hp)
    obtain ⟨vs, hd⟩ := hf
    obtain ⟨od, J⟩ : ∃ od, PySem.W.InstAt s.heap a oe C od := by
      rcases ed with rfl | ⟨dd, fs, rfl, hx⟩
      · obtain ⟨oc, odd, oda, osl⟩ := oe
        obtain ⟨h1, h2⟩ := hz
        dsimp only at h1 h2 hd
        subst h1 h2 hd
        exact ⟨none, ha, rfl, rfl, trivial⟩
      · obtain ⟨mA, hns, _⟩ := (show ObjOk X.prog X.w H s.heap dd (.xd fs) from I.hok dd _ hx)
        obtain ⟨od, ho, _⟩ := lookIn_ns hns
        exact ⟨some od, ha, hz.1, by unfold PySem.W.notCls; rw [hd] <;> rfl, by rw [hz.2]; exact ho⟩
    exact PySem.W.kia_one (exc_kit T) I.kIn J e (fun z => nomatch z) fun tk => ⟨.bl b, H, I.kept (t' := tk) fun _ _ z => z, rfl, q⟩
end
/-- a def that is handed a caught error -/
structure FnE (P : Program) (w : World) (K : PySem.W.Frag) (mg : Str → Option Value) (base : Heap) (CX : CXT) (k : Nat) (f : Addr) (fd : FuncData) (ps : List Str) (sp : Addr → Value → Option Addr → Sp) : Prop where
  len : ∀ a cls d vs H Q E, sp a cls d vs H Q E → vs.length = ps.length
  run : ∀ (A : Around) (outer : List Env) (s : Shared) (H : Hp) (args : Args) (us : List Value) (vs : List V) (Q : VK) (E : XK) (a : Addr) (oe : Obj) (cls : Value) (d : Option Addr), Zc cls d oe → (∃ vs, oe.data = .fields vs) → L2H.RoomH k A → L2H.PinOk outer H s (a, oe) → Env0 P w K mg base A outer s H → BindsTo s fd args (ps.zip us) → Vals vs us → sp a cls d vs H Q E →
    codeAny (model P w) A (.call (.ref f) args) (CR CX outer P w H s Q E) s
structure CalE (P : Program) (w : World) (K : PySem.W.Frag) (mg : Str → Option Value) (base : Heap) (k : Nat) (x : Str) (sp : Addr → Value → Option Addr → Sp) : Prop where
  ex : ∃ (f : Addr) (fd : FuncData) (ps : List Str), FnE P w K mg base (L2.CX P w) k f fd ps sp ∧ mg x = some (.ref f) ∧ PySem.W.keepIn K (.ref f) = true ∧ Binds K fd ps []
section
variable {P : Program} {w : World} {K : PySem.W.Frag} {mg : Str → Option Value} {base : Heap}
theorem calE {x : Str} {st : Stmt} {N ps : List Str} {k : Nat} {sp : Addr → Value → Option Addr → Sp} (D : Dfn K mg x st) (S : FnScope N ps (defScope st)) (len : ∀ a cls d vs H Q E, sp a cls d vs H Q E → vs.length = ps.length)
    (hb : ∀ (kV doc pm : Value) (an : Option Addr) (cdv ct : Value) (us : List Value), us.length = ps.length → bindArgs (PySem.W.fnOf x x (defArgs st) (defBody st) (defScope st) .none kV doc pm an cdv ct) ⟨us, []⟩ = pure (ps.zip us))
    (hbody : ∀ (f : Addr) (cdv : Value) (A : Around) (outer : List Env) (s : Shared) (H : Hp) (vs : List V) (Q : VK) (E : XK) (a : Addr) (oe : Obj) (cls : Value) (d : Option Addr), Zc cls d oe → (∃ vs, oe.data = .fields vs) → sp a cls d vs H Q E →
      ∃ t, PSs (L2H.cxH (L2.CX P w) P w K mg base N x (defScope st) f cdv A outer s H E (a, oe)) (defBody st) t ∧ t { nx := fun _ H' => Q .non H', rt := Q } (L2.start N vs) H) : CalE P w K mg base (k + 1) x sp := by
  obtain ⟨f, fd, F, hm⟩ := D
  have F0 := F
  obtain ⟨oc, od, kV, doc, pm, an, cdv, ct, osl, rfl, lk, hcd⟩ := F.ex
  refine ⟨f, _, ps, ⟨len, fun A outer s H args us vs Q E a oe cls d hz hf hr hpin e0 hb r hsp => ?_⟩, hm, F0.kp, F0.binds hb⟩
  have hl := len _ _ _ _ _ _ _ hsp
  have KX : K.In s.heap := e0.mod.kin.keeps fun b o e => (e0.bs b o e).1
  have lim : s.heap.NoLimit := e0.mod.nolimit.keeps fun b o e => (e0.bs b o e).1
  have hkind : ∀ y ∈ ps.zip us, (defScope st).names.lookup y.1 = some .local ∨ ((defScope st).names.lookup y.1 = some .cell ∧ ((cellsFrom (s.heap.objs.size + 1) (defScope st).names []).lookup y.1).isSome = true) := fun ⟨n, v⟩ hy => by
    rcases S.par n (List.of_mem_zip hy).1 with q | q
    · exact .inl q
    · exact .inr ⟨q, PySem.W.cellsFrom_some _ _ _ (.inl q)⟩
  refine codeAny_call_function hr.depth (KX _ _ lk) rfl S.co S.gen rfl (PySem.W.codeRec_of KX hcd) (hb _ _ _ _ ?_)
  refine wpAny_newFunctionEnv_cells S.kind hkind fun env he s1 x => ?_
  subst he
  refine ⟨lim.keeps x.toInCall.keep, codeAny_func ?_⟩
  obtain ⟨t, ht, hq⟩ := hbody f cdv A outer s H vs Q E a oe cls d hz hf hsp
  have I := L2H.inv_startH (CX := L2.CX P w) (E := E) (f := f) (cd := cdv) S hpin e0 hl r x
  refine wpAny_mono (ht.run [] s1 (L2.start N vs) H _ I hq) (fun fl s' hs => ?_) fun e s' hs => hs
  cases fl with
  | ret u =>
    obtain ⟨v, σ', H', J, rv, q⟩ := hs
    exact ⟨v, H', J.os, J.bare, J.base, J.hok, rv, q⟩
  | next =>
    obtain ⟨σ', H', J, q⟩ := hs
    exact ⟨V.non, H', J.os, J.bare, J.base, J.hok, rfl, q⟩
  | brk =>
    obtain ⟨_, _, _, q⟩ := hs
    exact False.elim q
  | cont =>
    obtain ⟨_, _, _, q⟩ := hs
    exact False.elim q
end
section
theorem roomE {A : Around} {j k : Nat} {h : Option Value} (r : Room j A) (hk : k ≤ j) : L2H.RoomH k (A.mark h) := ⟨by have := r.dp; show A.depth + 3 * k + 5 < _; omega, by have := r.un; show A.units + 16 * k + 200 < _; omega⟩
variable {X : Cx} {k : Nat} {sp : Addr → Value → Option Addr → Sp} {x : Str} {q pos : Pos} {e : Expr} {es : List Expr} {t : TA} {a : Addr} {oe : Obj} {cls : Value} {d : Option Addr}
theorem pe_callE (c : CalE X.prog X.w X.K X.mg X.base k x sp) (hr : L2H.RoomH k X.A) (hp : (a, oe) ∈ X.pn) (hz : Zc cls d oe) (hf : ∃ vs, oe.data = .fields vs) (hg : Gl X x)
    (ha : PA X (e :: es) t) (hdb : (x == ("__debug__" : Str)) = false := by decide) (he : starEach (e :: es) X.env = (false, eval e X.env) :: starEach es X.env := by rfl) (hpl : (backTo pos (starEach es X.env)).any (·.1) = false := by rfl) :
    PE X (.Call (.Name x q) (e :: es) [] pos) (tCall (sp a cls d) [] E0 t) := by
  obtain ⟨f, fd, ps, F, hm, hk, hb⟩ := c.ex
  refine ⟨fun pins s σ H Q I h => ?_⟩
  refine wpAny_Call_Name_kw (ld_glob I hg hm ?_ hdb)
  refine PySem.W.callWith_K (h₀ := X.base) I.ok.mod.kin hk (thn (ha.run pos pins s σ H _ I h) fun us s1 ⟨vs, H1, I1, r, q⟩ => ⟨I1.kIn, ?_⟩) he hpl
  have q : sp a cls d (vs ++ []) H1 Q E0 := q
  rw [List.append_nil] at q
  have hl : us.length = ps.length := by rw [← r.length]; exact F.len _ _ _ _ _ _ _ q
  have b := hb s1 us I1.kIn (by rw [List.append_nil]; exact hl)
  rw [List.append_nil] at b
  have P1 := I1.pin (a, oe) (List.mem_append_left _ hp)
  have hpin : L2H.PinOk X.stack H1 s1 (a, oe) := ⟨P1.1, P1.2.1, fun hm => (List.mem_cons.mp (I1.stkSub a hm)).elim P1.2.2.1 P1.2.2.2.1, P1.2.2.2.2⟩
  refine wpAny_call (codeAny_mono (F.run X.A X.stack s1 H1 ⟨us, []⟩ us vs Q E0 a oe cls d hz hf hr hpin I1.env0 b r q) fun r s' hq => ?_)
  cases r with
  | error e => exact (passL pins (show L2.St from σ) H1 s1 e s' I1 hq)
  | ok fl =>
    cases fl with
    | ret u => exact I1.after hq
    | next => exact False.elim hq
    | brk => exact False.elim hq
    | cont => exact False.elim hq
end
end Tr

/-! # Lists of tuples of the same things; lists of other lengths; isinstance of a caught error with a tuple of classes. -/
namespace Tr
open PySem PySem.Spec PyProof.Rows L2
/-- a thing that is itself -/
def Slf (v : V) : Prop := flatB v = true ∨ ∃ a, v = .ref a
theorem eqAt_self {A : Around} {s : Shared} {v : V} {u u' : Value} (r : RelV v u) (r' : RelV v u') (f : Slf v) : SeqAt.EqAt A s u u' true := by
  rcases f with f | ⟨a, rfl⟩
  · exact eqAt_same r r' f
  · cases (show u = Value.ref a from r)
    cases (show u' = Value.ref a from r')
    exact SeqAt.EqAt.same _
theorem eqAt_selfs {A : Around} {s : Shared} : ∀ {xs : List V} {us ws : List Value}, Vals xs us → Vals xs ws → (∀ v ∈ xs, Slf v) → ∀ j (h1 : j < us.length) (h2 : j < ws.length), SeqAt.EqAt A s us[j] ws[j] true
  | [], _, _, r, _, _, j, h1, _ => by
    cases r
    exact absurd h1 (Nat.not_lt_zero j)
  | v :: xs, _, _, r, r2, f, j, h1, h2 => by
    cases r with
    | cons a1 b1 =>
      cases r2 with
      | cons a2 b2 =>
        cases j with
        | zero => exact eqAt_self a1 a2 (f v List.mem_cons_self)
        | succ j => exact eqAt_selfs b1 b2 (fun v hv => f v (List.mem_cons_of_mem _ hv)) j (Nat.lt_of_succ_lt_succ h1) (Nat.lt_of_succ_lt_succ h2)
/-- two tuples of the same things -/
def TupS (K : PySem.W.Frag) (H : Hp) (u w : Addr) : Prop := ∃ xs, SqT K H u xs ∧ SqT K H w xs ∧ ∀ v ∈ xs, Slf v
section
variable {X : Cx} {pins : List (Addr × Obj)} {σ : L2.St} {H : Hp} {s : Shared}
theorem eqAt_tup {A : Around} (I : Inv X pins σ H s) (hu : A.units < cLine) {u w : Addr} (h : TupS X.K H u w) : SeqAt.EqAt A s (.ref u) (.ref w) true := by
  by_cases e : u = w
  · rw [e]
    exact SeqAt.EqAt.same _
  · obtain ⟨xs, hU, hW, hf⟩ := h
    obtain ⟨its, r, e1, _⟩ := I.tuple hU
    obtain ⟨its2, r2, e2, _⟩ := I.tuple hW
    have hz : its.length = its2.length := by rw [← r.length, ← r2.length]
    refine SeqAt.EqAt.of_refs e ?_
    have key := SeqAt.RcAt.tuples (A := A) (s := s) (e := fun _ => true) (show s.heap.IsTuple u its.toArray from e1) (show s.heap.IsTuple w its2.toArray from e2) hu (fun j h1 h2 => eqAt_selfs (A := A.in1) (s := s) r r2 hf j h1 h2)
    have eb : ((List.range (min its.toArray.size its2.toArray.size)).all (fun _ => true) && its.toArray.size == its2.toArray.size) = true := by
      rw [List.size_toArray, List.size_toArray, hz]
      simp
    rw [eb] at key
    exact key
theorem eqAt_tups {A : Around} (I : Inv X pins σ H s) (hu : A.units < cLine) : ∀ {us ws : List Addr} {is js : List Value}, P2 (TupS X.K H) us ws → Vals (us.map V.ref) is → Vals (ws.map V.ref) js → ∀ j (h1 : j < is.length) (h2 : j < js.length), SeqAt.EqAt A s is[j] js[j] true
  | [], _, _, _, .nil, r, _, j, h1, _ => by
    cases r
    exact absurd h1 (Nat.not_lt_zero j)
  | u :: us, w :: ws, _, _, .cons h t, r, r2, j, h1, h2 => by
    cases r with
    | cons a1 b1 =>
      cases r2 with
      | cons a2 b2 =>
        cases j with
        | zero =>
          cases a1
          cases a2
          exact eqAt_tup I hu h
        | succ j => exact eqAt_tups I hu t b1 b2 j (Nat.lt_of_succ_lt_succ h1) (Nat.lt_of_succ_lt_succ h2)
end
def rNeLT (K : PySem.W.Frag) : R2 := fun x y H Q => ∃ a b us ws, x = .ref a ∧ y = .ref b ∧ SqL K H a (us.map V.ref) ∧ SqL K H b (ws.map V.ref) ∧ P2 (TupS K H) us ws ∧ Q (.bl false) H
theorem op_neLT {X : Cx} (hu : X.A.units + 64 < cLine) : OpR X (compareOp .NotEq) (rNeLT X.K) := by
  intro pins s σ H x y v u Q I rx ry h
  obtain ⟨a, b, us, ws, rfl, rfl, ha, hb, hp, q⟩ := h
  cases rx
  cases ry
  obtain ⟨its, r, e, _⟩ := I.list ha
  obtain ⟨its2, r2, e2, _⟩ := I.list hb
  have hz : its.length = its2.length := by rw [← r.length, ← r2.length, List.length_map, List.length_map, hp.len]
  have key := SeqAt.RcNeAt.lists (A := X.A) (s := s) (e := fun _ => true) e.isList e2.isList (by rw [List.size_toArray, List.size_toArray, hz]) (by omega) (fun j h1 h2 => eqAt_tups (A := X.A.in1) I (by show X.A.units + 1 < _; omega) hp r r2 j h1 h2)
  have eb : (!(List.range its.toArray.size).all (fun _ => true)) = false := by simp
  rw [eb] at key
  exact key X.prog X.w _ _ ⟨.bl false, H, I, rfl, q⟩
/-- x == y, lists of other lengths or both empty -/
def rEqE (K : PySem.W.Frag) (n : Bool) : R2 := fun x y H Q => ∃ a b xs ys, x = .ref a ∧ y = .ref b ∧ SqL K H a xs ∧ SqL K H b ys ∧ ((xs.length ≠ ys.length ∧ Q (.bl n) H) ∨ (xs = [] ∧ ys = [] ∧ Q (.bl !n) H))
theorem op_eqE {X : Cx} (hu : X.A.units + 64 < cLine) : OpR X (compareOp .Eq) (rEqE X.K false) := by
  intro pins s σ H x y v u Q I rx ry h
  obtain ⟨a, b, xs, ys, rfl, rfl, ha, hb, h⟩ := h
  cases rx
  cases ry
  obtain ⟨its, r, e, _⟩ := I.list ha
  obtain ⟨its2, r2, e2, _⟩ := I.list hb
  rcases h with ⟨ne, q⟩ | ⟨rfl, rfl, q⟩
  · exact SeqAt.RcAt.lists_lengths (A := X.A) (s := s) e.isList e2.isList (by rw [List.size_toArray, List.size_toArray, ← r.length, ← r2.length]; simpa using ne) (by omega) X.prog X.w _ _ ⟨.bl false, H, I, rfl, q⟩
  · cases r
    cases r2
    have key := SeqAt.RcAt.lists (A := X.A) (s := s) (e := fun _ => true) e.isList e2.isList rfl (by omega) (fun j h1 _ => absurd h1 (Nat.not_lt_zero j))
    exact key X.prog X.w _ _ ⟨.bl true, H, I, rfl, q⟩
theorem op_neE {X : Cx} (hu : X.A.units + 64 < cLine) : OpR X (compareOp .NotEq) (rEqE X.K true) := by
  intro pins s σ H x y v u Q I rx ry h
  obtain ⟨a, b, xs, ys, rfl, rfl, ha, hb, h⟩ := h
  cases rx
  cases ry
  obtain ⟨its, r, e, _⟩ := I.list ha
  obtain ⟨its2, r2, e2, _⟩ := I.list hb
  rcases h with ⟨ne, q⟩ | ⟨rfl, rfl, q⟩
  · exact SeqAt.RcNeAt.lists_lengths (A := X.A) (s := s) e.isList e2.isList (by rw [List.size_toArray, List.size_toArray, ← r.length, ← r2.length]; simpa using ne) (by omega) X.prog X.w _ _ ⟨.bl true, H, I, rfl, q⟩
  · cases r
    cases r2
    have key := SeqAt.RcNeAt.lists (A := X.A) (s := s) (e := fun _ => true) e.isList e2.isList rfl (by omega) (fun j h1 _ => absurd h1 (Nat.not_lt_zero j))
    exact key X.prog X.w _ _ ⟨.bl false, H, I, rfl, q⟩
section
variable {X : Cx} {a : Addr} {oe : Obj} {cls : Value} {d : Option Addr}
/-- isinstance of a caught error, the classes in a tuple just laid -/
def rIsAT (K : PySem.W.Frag) (a : Addr) (cls : Value) (d : Option Addr) : List V → Hp → VK → Prop := fun xs H Q => ∃ (C tp : Addr) (cs : List V) (us : List Value) (b : Bool), xs = [.ref a, .ref tp] ∧ H tp = some (.tup cs) ∧ Paired ClsV cs us ∧ ExcAt K H cls d C ∧ PySem.W.kitAny K (.ref C) us = some b ∧ Q (.bl b) H
theorem call_isAT (K : PySem.W.Frag) (hp : (a, oe) ∈ X.pn) (hz : Zc cls d oe) (hf : ∃ vs, oe.data = .fields vs) (hk : X.K = K := by rfl) : CallR X (.builtin "isinstance") (rIsAT K a cls d) := by
  subst hk
  intro pins s σ H xs us Q I r ⟨C, tp, cs, ws, b, ex, hT, k, ⟨ec, T, ed⟩, e, q⟩
  subst ex ec
  match us, r with
  | [_, _], .cons rx (.cons rt .nil) =>
    cases rx
    cases rt
    obtain ⟨_, its, rv, o, h1, h2, n, h3⟩ := (show ObjOk X.prog X.w H s.heap tp (.tup cs) from I.hok tp _ hT)
    have e3 := ClsV.all k rv
    subst e3
    obtain ⟨oc, od0, dt, sl⟩ := o
    simp only at h2 h3
    subst h2 h3
    obtain ⟨ha, _⟩ := I.pin (a, oe) (List.mem_append_left _ hp)
    obtain ⟨vs, hd⟩ := hf
    obtain ⟨od, J⟩ : ∃ od, PySem.W.InstAt s.heap a oe C od := by
      rcases ed with rfl | ⟨dd, fs, rfl, hx⟩
      · obtain ⟨oc, odd, oda, osl⟩ := oe
        obtain ⟨h1, h2⟩ := hz
        dsimp only at h1 h2 hd
        subst h1 h2 hd
        exact ⟨none, ha, rfl, rfl, trivial⟩
      · obtain ⟨mA, hns, _⟩ := (show ObjOk X.prog X.w H s.heap dd (.xd fs) from I.hok dd _ hx)
        obtain ⟨od, ho, _⟩ := lookIn_ns hns
        exact ⟨some od, ha, hz.1, by unfold PySem.W.notCls; rw [hd] <;> rfl, by rw [hz.2]; exact ho⟩
    exact PySem.W.kia_tup (exc_kit T) I.kIn J h1 e (fun z => nomatch z) fun tk => ⟨.bl b, H, I.kept (t' := tk) fun _ _ z => z, rfl, q⟩
end
/-- a field of a caught error, its class told by the promise -/
def tXfA (K : PySem.W.Frag) (a : Addr) (cls : Value) (d : Option Addr) (f : Str) (te : TE) : TE := fun σ H Q => te σ H fun x H1 => x = .ref a ∧ ∃ C : Addr, cls = .ref C ∧ XfC K C ∧ PySem.W.findIn K (.ref C) f = some none ∧ ∃ (dd : Addr) (fs : List (Str × V)) (v : V), d = some dd ∧ H1 dd = some (.xd fs) ∧ fs.lookup f = some v ∧ Q v H1
theorem pe_xfA {X : Cx} {a : Addr} {oe : Obj} {cls : Value} {d : Option Addr} {pn : List (Addr × Obj)} {e : Expr} {te : TE} {pos : Pos} {n : Str}
    (hz : Zc cls d oe) (hf : ∃ vs, oe.data = .fields vs) (he : PE (X.suite a ((a, oe) :: pn)) e te) (hb : attributeBase e n X.env (eval e X.env) = eval e X.env := by rfl) :
    PE (X.suite a ((a, oe) :: pn)) (.Attribute e n pos) (tXfA X.K a cls d n te) := by
  refine ⟨fun pins s σ H Q I h => ?_⟩
  refine attr_of hb (thn (he.run pins s σ H _ I h) fun u s1 hh => ?_)
  obtain ⟨x, H1, I1, rx, ex, C, ec, T, hno, dd, fs, v, ed, ea, l, q⟩ := hh
  subst ex
  obtain rfl : u = Value.ref a := rx
  subst ec
  subst ed
  obtain ⟨ha, _⟩ := I1.pin (a, oe) (List.mem_append_left _ List.mem_cons_self)
  obtain ⟨vs, hd⟩ := hf
  have hx : ObjOk X.prog X.w H1 s1.heap dd (.xd fs) := I1.hok dd _ ea
  obtain ⟨mA, hns, hr⟩ := hx
  obtain ⟨od, ho, hl⟩ := lookIn_ns hns
  obtain ⟨u, hu, ru⟩ := RelO.some_of (v := v) (o := mA n) (by rw [← l]; exact hr n)
  have J : PySem.W.InstAt s1.heap a oe C (some od) := ⟨ha, hz.1, by unfold PySem.W.notCls; rw [hd] <;> rfl, by rw [hz.2]; exact ho⟩
  exact HandSPX.exc_get I1.kIn J T.ga T.gg T.exC (PySem.W.findObj_own T.hdC hno rfl (by rw [hl, hu])) (handed_of ru) ⟨v, H1, I1.tok _, ru, q⟩
section
variable {X : Cx}
/-- f(lambda: e), two tables known -/
theorem pe_lam2 {TT : (XK → Hp → VK → Prop) → Hp → VK → Prop} {x a q q2 : Str} {st : Stmt} {c Pt Pt2 : Addr} {k j : Nat} {Ng : List Str} {params : Arguments} {body : Expr} {scope : Scope} {t : XK → TE} {p lpos pos : Pos} (hne : Pt2 ≠ Pt) (hq : X.env.qual ++ "<lambda>" = q)
    (D : Dfn X.K X.mg x st) (Sg : FnScope Ng [a] (defScope st)) (hNg : Ng[0]? = some a) (hva : Vis (defScope st) a)
    (hb : ∀ (kV doc pm : Value) (an : Option Addr) (cdv ct : Value) (us : List Value), us.length = [a].length → bindArgs (PySem.W.fnOf x x (defArgs st) (defBody st) (defScope st) .none kV doc pm an cdv ct) ⟨us, []⟩ = pure ([a].zip us))
    (hG : ∀ g cdg, LamX.GivesTo X Ng x (defScope st) g cdg (defBody st) a (X.env.qual ++ "<lambda>") TT) (hg : Gl X x)
    (TB : LamX.TabB X.base X.mg c Pt) (hcode : X.env.code = .ref c) (hr : Room j X.A) (hk : k + 2 ≤ j) (L : LamX.LamS X.env.scope scope) (hdef : defaultsOf params X.env = ([], []))
    (hbind : ∀ (q : Str) (cl : List (Str × Addr)) (pm cv ctv : Value), bindArgs (PySem.W.kla_fn "<lambda>" q params body scope cl pm cv ctv) ⟨[], []⟩ = pure [])
    (hbody : ∀ (A : Around) (outer : List Env) (s : Shared) (H : Hp) (E : XK) (f c' : Addr), Room k (A.deeper (LamX.lamEnv X scope s.heap.objs.size f c')) → PE (LamX.lamCx X A outer s H E scope f c') body (t E))
    (hdb : (x == ("__debug__" : Str)) = false := by decide) (hd : (a == ("__debug__" : Str)) = false := by decide) (hcd : (a == ("__classdict__" : Str)) = false := by decide) :
    PE X (.Call (.Name x p) [.Lambda params body scope lpos] [] pos) (LamX.tLam [(Pt, q), (Pt2, q2)] TT t) := by
  subst hq
  exact pe_lam D Sg hNg hva hb hG hg TB hcode List.mem_cons_self (fun p hp e => by
    rcases List.mem_cons.mp hp with rfl | hp
    · rfl
    · rw [List.mem_singleton.mp hp] at e
      exact (hne e).elim) hr hk L hdef hbind hbody hdb hd hcd
end
end Tr

/-! # k27: own == with anything at the right. -/
namespace Tr
open PySem PySem.Spec PyProof.Rows L2
/-- a value's type, for own == -/
inductive TyR (K : PySem.W.Frag) (H : Hp) : V → Value → Prop
  | non : TyR K H .non (.type "NoneType")
  | int (i : Int) : TyR K H (.int i) (.type "int")
  | str (x : Str) : TyR K H (.str x) (.type "str")
  | lst {a : Addr} {xs : List V} (e : H a = some (.lst xs)) : TyR K H (.ref a) (.type "list")
  | ins {a C dx : Addr} {fs : List (Str × V)} (e : H a = some (.ins C dx fs)) : TyR K H (.ref a) (.ref C)
section
variable {X : Cx} {k : Nat} {C : Addr} {sp : Sp} {E : XK}
theorem TyR.looks {pins : List (Addr × Obj)} {σ : L2.St} {H : Hp} {s : Shared} {x : V} {u t : Value} (I : Inv X pins σ H s) (rx : RelV x u) (ty : TyR X.K H x t) : PySem.W.Looks (model X.prog X.w) s.heap (typeOf u) t := by
  cases ty with
  | non => cases (show u = Value.none from rx); exact PySem.W.Looks.of_pure rfl
  | int i => obtain ⟨t, q⟩ := (show ∃ t, u = Value.int i t from rx); cases q; exact PySem.W.Looks.of_pure rfl
  | str y => obtain ⟨t, q⟩ := (show ∃ t, u = Value.str y t from rx); cases q; exact PySem.W.Looks.of_pure rfl
  | lst e =>
    cases rx
    obtain ⟨its, rv, hL, _⟩ := I.list (SqL.of e)
    obtain ⟨⟨cls0, dd0, data0, sl0⟩, ho0, hc0, n0, hd0⟩ := hL.isList
    simp only at hc0
    subst hc0
    exact (PySem.W.Looks.ld ho0).andThen .now
  | ins e =>
    cases rx
    obtain ⟨mA, J, _⟩ := ins_get I.hok e
    obtain ⟨od, J, _⟩ := J.look
    exact J.type
def rEqK (K : PySem.W.Frag) (C : Addr) (sp : Sp) (E : XK) (out : Bool → V) : R2 := fun x y H Q => ∃ a dx fs t, x = .ref a ∧ H a = some (.ins C dx fs) ∧ TyR K H y t ∧ PySem.W.notFirst K C t = true ∧ sp [x, y] H (fun v H' => ∃ b, v = .bl b ∧ Q (out b) H') E
theorem or_eqK (c : Met X.prog X.w X.K X.mg X.base k C "__eq__" sp []) {j : Nat} (hr : Room j X.A) (hk : k ≤ j) (hx : Passes (L2.CX X.prog X.w) X E) : OpR X (compareOp .Eq) (rEqK X.K C sp E .bl) := by
  obtain ⟨f, fd, ps, ds, hc, hm, F, b, d⟩ := c.ex
  cases d
  intro pins s σ H x y v u Q I rx ry h
  obtain ⟨a, dx, fs, t, rfl, ha, ty, nf, h⟩ := h
  cases rx
  obtain ⟨mA, J, _⟩ := ins_get I.hok ha
  obtain ⟨od, J, _⟩ := J.look
  obtain ⟨m, hF⟩ := I.fr
  show wpAny (model X.prog X.w) X.A (richCompare .Eq (.ref a) u) _ _ s
  refine PySem.W.cmp_K (op := .Eq) (tb := t) hr.units0 hF I.ok.mod.kin J (ty.looks I ry) nf hm.at_ hm.fn ?_
  refine wpAny_mono (run_at F (hr.mono hk) rfl b hx I (us := [.ref a, u]) (vs := [.ref a, y]) (.cons rfl (.cons ry .nil)) h) (fun r s' q => ?_) fun _ _ z => z
  obtain ⟨z, H', I', rz, b', rfl, q⟩ := q
  cases rz
  exact ⟨.bl b', H', I', rfl, q⟩
theorem or_eqKK (K : PySem.W.Frag) (c : Met X.prog X.w X.K X.mg X.base k C "__eq__" sp []) {j : Nat} (hr : Room j X.A) (hk : k ≤ j) (hx : Passes (L2.CX X.prog X.w) X E) (e : X.K = K := by rfl) : OpR X (compareOp .Eq) (rEqK K C sp E .bl) := by
  subst e
  exact or_eqK c hr hk hx
end
theorem KindO.first {K : PySem.W.Frag} {C : Addr} (o : KindO K C) {n : String} (h : n ∈ bNames) : PySem.W.notFirst K C (.type n) = true := by
  unfold PySem.W.notFirst
  rw [o.sub n h]
  simp
theorem first_self {K : PySem.W.Frag} {C : Addr} : PySem.W.notFirst K C (.ref C) = true := by simp [PySem.W.notFirst]
end Tr

/-! ### the text by places; what the top has left -/
namespace Tr
open PySem L2
def top (i : Nat) : Stmt := PySem.Challenge.pw_turnrings_k01_numbers_made_and_refused.main.body.getD i (.Pass ⟨0, 0, 0, 0⟩)
abbrev s_BadPart___init__ : Stmt := inClass (top 9) 0
theorem ex_BadPart : ExS "BadPart.__init__" s_BadPart___init__ ["index"] ((defBody s_BadPart___init__).drop 1) := ⟨NdefX.nscope_by (by decide +kernel), ⟨_, _, _, _, _, _, _, _, rfl, fun _ _ _ _ => rfl, fun _ _ _ _ => ⟨_, rfl⟩⟩, ⟨_, rfl, rfl⟩, rfl, fun _ _ _ _ _ _ _ us hl => match us, hl with | [_, _], _ => rfl⟩
abbrev s_common_divisor : Stmt := top 2
theorem sc_common_divisor : FnScope ["a", "b"] ["a", "b"] (defScope s_common_divisor) := ⟨rfl, rfl, rfl, by decide +kernel, rfl, by decide +kernel, by decide +kernel⟩
abbrev s_common_multiple : Stmt := top 3
theorem sc_common_multiple : FnScope ["a", "b"] ["a", "b"] (defScope s_common_multiple) := ⟨rfl, rfl, rfl, by decide +kernel, rfl, by decide +kernel, by decide +kernel⟩
abbrev s_combination : Stmt := top 4
theorem sc_combination : FnScope ["a", "b", "one", "two", "part"] ["a", "b"] (defScope s_combination) := ⟨rfl, rfl, rfl, by decide +kernel, rfl, by decide +kernel, by decide +kernel⟩
abbrev s_inverse : Stmt := top 5
theorem sc_inverse : FnScope ["a", "m"] ["a", "m"] (defScope s_inverse) := ⟨rfl, rfl, rfl, by decide +kernel, rfl, by decide +kernel, by decide +kernel⟩
abbrev s_tidy_classes : Stmt := top 13
theorem sc_tidy_classes : FnScope ["classes", "kept", "m", "r", "s", "k"] ["classes"] (defScope s_tidy_classes) := ⟨rfl, rfl, rfl, by decide +kernel, rfl, by decide +kernel, by decide +kernel⟩
abbrev s_refined : Stmt := top 14
theorem sc_refined : FnScope ["classes", "r", "m", "found", "s", "k", "g", "small", "times"] ["classes", "r", "m"] (defScope s_refined) := ⟨rfl, rfl, rfl, by decide +kernel, rfl, by decide +kernel, by decide +kernel⟩
abbrev s_is_covered : Stmt := top 15
theorem sc_is_covered : FnScope ["n", "classes", "r", "m"] ["n", "classes"] (defScope s_is_covered) := ⟨rfl, rfl, rfl, by decide +kernel, rfl, by decide +kernel, by decide +kernel⟩
abbrev s_bare_number : Stmt := top 16
theorem sc_bare_number : FnScope ["classes", "least", "u", "found", "r", "m", "n"] ["classes"] (defScope s_bare_number) := ⟨rfl, rfl, rfl, by decide +kernel, rfl, by decide +kernel, by decide +kernel⟩
abbrev s_is_whole : Stmt := top 11
theorem sc_is_whole : FnScope ["value"] ["value"] (defScope s_is_whole) := ⟨rfl, rfl, rfl, by decide +kernel, rfl, by decide +kernel, by decide +kernel⟩
abbrev s_is_part : Stmt := top 12
theorem sc_is_part : FnScope ["value"] ["value"] (defScope s_is_part) := ⟨rfl, rfl, rfl, by decide +kernel, rfl, by decide +kernel, by decide +kernel⟩
abbrev s_Numbers___init__ : Stmt := inClass (top 17) 0
theorem sc_Numbers___init__ : FnScope ["self", "parts", "index", "part", "singles", "r", "m", "n"] ["self", "parts"] (defScope s_Numbers___init__) := ⟨rfl, rfl, rfl, by decide +kernel, rfl, by decide +kernel, by decide +kernel⟩
abbrev s_Numbers_every : Stmt := inClass (top 17) 1
theorem sc_Numbers_every : FnScope [] [] (defScope s_Numbers_every) := ⟨rfl, rfl, rfl, by decide +kernel, rfl, by decide +kernel, by decide +kernel⟩
abbrev s_Numbers_single : Stmt := inClass (top 17) 2
theorem sc_Numbers_single : FnScope ["n"] ["n"] (defScope s_Numbers_single) := ⟨rfl, rfl, rfl, by decide +kernel, rfl, by decide +kernel, by decide +kernel⟩
abbrev s_Numbers_class_of : Stmt := inClass (top 17) 4
theorem sc_Numbers_class_of : FnScope ["r", "m"] ["r", "m"] (defScope s_Numbers_class_of) := ⟨rfl, rfl, rfl, by decide +kernel, rfl, by decide +kernel, by decide +kernel⟩
abbrev s_Numbers_of : Stmt := inClass (top 17) 3
theorem sc_Numbers_of : FnScope ["integers", "index", "n"] ["integers"] (defScope s_Numbers_of) := ⟨rfl, rfl, rfl, by decide +kernel, rfl, by decide +kernel, by decide +kernel⟩
abbrev s_Numbers___contains__ : Stmt := inClass (top 17) 6
theorem sc_Numbers___contains__ : FnScope ["self", "n"] ["self", "n"] (defScope s_Numbers___contains__) := ⟨rfl, rfl, rfl, by decide +kernel, rfl, by decide +kernel, by decide +kernel⟩
abbrev s_Numbers_outside : Stmt := inClass (top 17) 14
theorem sc_Numbers_outside : FnScope ["self", "other", "n", "r", "m", "classes", "bare", "around", "s", "k"] ["self", "other"] (defScope s_Numbers_outside) := ⟨rfl, rfl, rfl, by decide +kernel, rfl, by decide +kernel, by decide +kernel⟩
abbrev s_Numbers_within : Stmt := inClass (top 17) 15
theorem sc_Numbers_within : FnScope ["self", "other"] ["self", "other"] (defScope s_Numbers_within) := ⟨rfl, rfl, rfl, by decide +kernel, rfl, by decide +kernel, by decide +kernel⟩
abbrev s_Numbers___eq__ : Stmt := inClass (top 17) 16
theorem sc_Numbers___eq__ : FnScope ["self", "other"] ["self", "other"] (defScope s_Numbers___eq__) := ⟨rfl, rfl, rfl, by decide +kernel, rfl, by decide +kernel, by decide +kernel⟩
abbrev s__law_bag : Stmt := top 19
theorem sc__law_bag : FnScope ["_law_script", "_law_fold", "_law_cell"] ["_law_script"] (defScope s__law_bag) := ⟨rfl, rfl, rfl, by decide +kernel, rfl, by decide +kernel, by decide +kernel⟩
abbrev s__law_draw : Stmt := top 20
theorem sc__law_draw : FnScope ["_law_bag_here", "_law_limit", "_law_cell", "_law_digit", "_law_base"] ["_law_bag_here", "_law_limit"] (defScope s__law_draw) := ⟨rfl, rfl, rfl, by decide +kernel, rfl, by decide +kernel, by decide +kernel⟩
abbrev s__law_has : Stmt := top 24
theorem sc__law_has : FnScope ["_law_pairs", "_law_n", "_law_r", "_law_m"] ["_law_pairs", "_law_n"] (defScope s__law_has) := ⟨rfl, rfl, rfl, by decide +kernel, rfl, by decide +kernel, by decide +kernel⟩
abbrev s__law_told : Stmt := top 23
theorem sc__law_told : FnScope ["_law_act", "e"] ["_law_act"] (defScope s__law_told) := ⟨rfl, rfl, rfl, by decide +kernel, rfl, by decide +kernel, by decide +kernel⟩
abbrev s__law_pair : Stmt := top 21
theorem sc__law_pair : FnScope ["_law_bag_here", "_law_r", "_law_m"] ["_law_bag_here"] (defScope s__law_pair) := ⟨rfl, rfl, rfl, by decide +kernel, rfl, by decide +kernel, by decide +kernel⟩
abbrev s__law_wrong : Stmt := top 22
theorem sc__law_wrong : FnScope ["_law_bag_here", "_law_odd"] ["_law_bag_here"] (defScope s__law_wrong) := ⟨rfl, rfl, rfl, by decide +kernel, rfl, by decide +kernel, by decide +kernel⟩
abbrev s__law_short_right : Stmt := top 25
theorem sc__law_short_right : FnScope ["_law_bag_here", "_law_r", "_law_m", "_law_three", "_law_at"] ["_law_bag_here"] (defScope s__law_short_right) := ⟨rfl, rfl, rfl, by decide +kernel, rfl, by decide +kernel, by decide +kernel⟩
abbrev s_law : Stmt := top 26
theorem sc_law : FnScope ["_law_script", "_law_bag_here", "_law_parts", "_law_places", "_law_k", "_law_at", "_law_given", "_law_pairs", "_law_a", "_law_b", "_law_part", "_law_n", "_law_place", "_law_value"] ["_law_script"] (defScope s_law) := ⟨rfl, rfl, rfl, by decide +kernel, rfl, by decide +kernel, by decide +kernel⟩
structure Txt (K : PySem.W.Frag) (mg : Str → Option Value) : Prop where
  a_Numbers__classes : NoAttr K (He.ga K "Numbers") "classes"
  a_Numbers__singles : NoAttr K (He.ga K "Numbers") "singles"
  b_abs : mg "abs" = none
  b_any : mg "any" = none
  b_bool : mg "bool" = none
  b_enumerate : mg "enumerate" = none
  b_int : mg "int" = none
  b_isinstance : mg "isinstance" = none
  b_len : mg "len" = none
  b_list : mg "list" = none
  b_min : mg "min" = none
  b_range : mg "range" = none
  b_set : mg "set" = none
  b_sorted : mg "sorted" = none
  b_tuple : mg "tuple" = none
  d__law_bag : Dfn K mg "_law_bag" s__law_bag
  d__law_draw : Dfn K mg "_law_draw" s__law_draw
  d__law_has : Dfn K mg "_law_has" s__law_has
  d__law_pair : Dfn K mg "_law_pair" s__law_pair
  d__law_short_right : Dfn K mg "_law_short_right" s__law_short_right
  d__law_told : Dfn K mg "_law_told" s__law_told
  d__law_wrong : Dfn K mg "_law_wrong" s__law_wrong
  d_bare_number : Dfn K mg "bare_number" s_bare_number
  d_combination : Dfn K mg "combination" s_combination
  d_common_divisor : Dfn K mg "common_divisor" s_common_divisor
  d_common_multiple : Dfn K mg "common_multiple" s_common_multiple
  d_inverse : Dfn K mg "inverse" s_inverse
  d_is_covered : Dfn K mg "is_covered" s_is_covered
  d_is_part : Dfn K mg "is_part" s_is_part
  d_is_whole : Dfn K mg "is_whole" s_is_whole
  d_refined : Dfn K mg "refined" s_refined
  d_tidy_classes : Dfn K mg "tidy_classes" s_tidy_classes
  e_Numbers : Ini0 K mg "Numbers" "Numbers.__init__" (He.ga K "Numbers") s_Numbers___init__
  i_Numbers : Ini K mg "Numbers" "Numbers.__init__" (He.ga K "Numbers") s_Numbers___init__ 1
  k_Numbers : Cls K (He.ga K "Numbers")
  l_Numbers : KindO K (He.ga K "Numbers")
  m_Numbers____contains__ : Mth K (He.ga K "Numbers") "__contains__" "Numbers.__contains__" s_Numbers___contains__
  m_Numbers____eq__ : Mth K (He.ga K "Numbers") "__eq__" "Numbers.__eq__" s_Numbers___eq__
  m_Numbers__outside : Mth K (He.ga K "Numbers") "outside" "Numbers.outside" s_Numbers_outside
  m_Numbers__within : Mth K (He.ga K "Numbers") "within" "Numbers.within" s_Numbers_within
  n_Numbers : NeOf K (He.ga K "Numbers")
  o_Numbers : IsO K (He.ga K "Numbers")
  s_Numbers__class_of : Smt K (He.ga K "Numbers") "class_of" "Numbers.class_of" s_Numbers_class_of
  s_Numbers__every : Smt K (He.ga K "Numbers") "every" "Numbers.every" s_Numbers_every
  s_Numbers__of : Smt K (He.ga K "Numbers") "of" "Numbers.of" s_Numbers_of
  s_Numbers__single : Smt K (He.ga K "Numbers") "single" "Numbers.single" s_Numbers_single
  v_Numbers : mg "Numbers" = some (.ref (He.ga K "Numbers"))
  x_BadPart : Exn K mg "BadPart" (He.ga K "BadPart") "BadPart.__init__" s_BadPart___init__ ["index"]
end Tr


namespace Tr
open PySem L2
/-- steps of a reading that are plain -/
local macro_rules | `(tactic| walk_at "x") => `(tactic| (refine' ⟨_, _, _, _, rfl, rfl, ?k1, ?k2, ?_⟩; (case k1 => exact SqT.of (by assumption)); (case k2 => exact rfl)))
local macro_rules | `(tactic| walk_at "g") => `(tactic| repeat (first | (refine ⟨_, rfl, ?_⟩) | (refine ⟨_, _, rfl, rfl, ?_⟩) | (refine ⟨_, _, rfl, ?_⟩) | (refine ⟨rfl, ?_⟩) | walk_at "x"))


/-! ### common_divisor -/
def spGcd : Sp := fun vs H Q _ => ∃ a b : Int, vs = [.int a, .int b] ∧ Q (.int (Int.gcd a b)) H
theorem abs_eq (a : Int) : (if a < 0 then -a else a) = a.natAbs := by
  split <;> omega
section
variable {P : Program} {w : World} {K : PySem.W.Frag} {mg : Str → Option Value} {base : Heap}
theorem c_common_divisor (T : Txt K mg) : Cal P w K mg base 1 "common_divisor" spGcd [] := by
  refine calN T.d_common_divisor sc_common_divisor (fun vs H Q E h => ?_) (fun _ _ _ _ _ _ us hl => match us, hl with | [_, _], _ => rfl) (fun f cdv A outer s H vs Q E hr h => ?_)
  · obtain ⟨a, b, rfl, _⟩ := h
    rfl
  · obtain ⟨a, b, rfl, k⟩ := h
    refine ⟨_, (pss_cons (ps_par (i := 0) (j := 1) (by rfl) sc_common_divisor.nd rfl rfl (by decide) rfl rfl (pa_cons (pe_callB call_abs (by rfl) T.b_abs (by decide +kernel) (pa_cons (pv 0) pa_nil)) (pa_cons (pe_callB call_abs (by rfl) T.b_abs (by decide +kernel) (pa_cons (pv 1) pa_nil)) pa_nil)) (by rfl))
      (pss_cons (ps_while PassesOwn.never (pt_cmpR op_gt (pv 1) pe_int (nomark _)) (pss_one (ps_par (i := 0) (j := 1) (by rfl) sc_common_divisor.nd rfl rfl (by decide) rfl rfl (pa_cons (pv 1) (pa_cons (pe_op op_mod (pv 0) (pv 1)) pa_nil)) (by rfl))))
      (pss_one (ps_ret (pv 0))))), ?_⟩
    walk_at "g"
    rw [abs_eq, abs_eq]
    refine wh (fun σ H' => H' = H ∧ ∃ x y : Int, σ = [some (.int x), some (.int y)] ∧ 0 ≤ x ∧ 0 ≤ y ∧ Int.gcd x y = Int.gcd a b) (fun σ _ => match σ with | [_, some (.int y)] => y.toNat | _ => 0)
      ⟨rfl, (a.natAbs : Int), (b.natAbs : Int), rfl, by omega, by omega, by simp [Int.gcd]⟩ ?_ ?_
    · rintro σ H' ⟨rfl, x, y, rfl, hx, hy, hg⟩
      walk_at "g"
      refine ite2 (fun c => ?_) (fun c => ?_)
      · have hy' : 0 < y := of_decide_eq_true c
        refine ⟨_, fun _ _ h => h, ?_⟩
        walk_at "g"
        refine ⟨hy', _, _, rfl, ⟨rfl, _, _, rfl, hy, Int.emod_nonneg _ (by omega), (gcd_step hy').trans hg⟩, ?_⟩
        show (x % y).toNat < y.toNat
        have := Int.emod_lt_of_pos x hy'
        omega
      · have hy' : ¬ 0 < y := fun z => c (decide_eq_true z)
        have e : y = 0 := by omega
        subst e
        walk_at "g"
        have : x = Int.gcd a b := by rw [← hg, Int.gcd_zero_right]; omega
        rw [this]
        exact k
    · rintro σ H' Q1 Q2 hq ⟨v, hv, i, j, e1, e2, b, e3, z⟩
      exact ⟨v, hv, i, j, e1, e2, b, e3, hq _ _ z⟩
theorem gcd_pos {a b : Int} (hb : 0 < b) : 0 < (Int.gcd a b : Int) := gcd_pos' hb
theorem gcd_le {a b : Int} (hb : 0 < b) : (Int.gcd a b : Int) ≤ b := Int.le_of_dvd hb (Int.gcd_dvd_right a b)
theorem gcd_bd {n : Nat} {a b : Int} (hb : 0 < b) (h : Bd n b) : Bd n (Int.gcd a b : Int) := h.le (by have := gcd_le (a := a) hb; have := gcd_pos (a := a) hb; omega)

def spLcm : Sp := fun vs H Q _ => ∃ a b : Int, vs = [.int a, .int b] ∧ 0 < b ∧ Bd 400000 a ∧ Bd 8000 b ∧ Q (.int (a / Int.gcd a b * b)) H
theorem c_common_multiple (T : Txt K mg) : Cal P w K mg base 2 "common_multiple" spLcm [] := by
  have c_common_divisor := @c_common_divisor P w K mg base T
  refine calN T.d_common_multiple sc_common_multiple (fun vs H Q E h => ?_) (fun _ _ _ _ _ _ us hl => match us, hl with | [_, _], _ => rfl) (fun f cdv A outer s H vs Q E hr h => ?_)
  · obtain ⟨a, b, rfl, _⟩ := h
    rfl
  · obtain ⟨a, b, rfl, hb, ba, bb, k⟩ := h
    refine ⟨_, (pss_one (ps_ret (pe_op op_mulW (pe_op op_fdivW (pv 0) (pe_cx c_common_divisor hr (by first | decide | omega) rfl passL (pa_cons (pv 0) (pa_cons (pv 1) pa_nil)))) (pv 1)))), ?_⟩
    walk_at "g"
    refine ⟨cdivw (gcd_pos hb) (gcd_bd hb bb) (by omega), ?_⟩
    walk_at "g"
    exact ⟨cmulw (ba.div (gcd_pos hb)) bb (by omega), k⟩

/-! ### combination, inverse -/
def spComb : Sp := fun vs H Q _ => ∃ a b : Int, vs = [.int a, .int b] ∧ 0 ≤ a ∧ 0 < b ∧ Bd 8000 a ∧ Bd 8000 b ∧
  ∀ (p : Addr) (H' : Hp) (u v : Int), Same H H' → H' p = some (.tup [.int (Int.gcd a b), .int u, .int v]) → u * a + v * b = Int.gcd a b → Q (.ref p) H'
def muComb (σ : St) (H : Hp) : Nat := match σ with
  | [_, _, _, some (.ref q), _] => (match H q with
    | some (.tup [.int x, _, _]) => x.toNat
    | _ => 0)
  | _ => 0
theorem c_combination (T : Txt K mg) : Cal P w K mg base 1 "combination" spComb [] := by
  refine calN T.d_combination sc_combination (fun vs H Q E h => ?_) (fun _ _ _ _ _ _ us hl => match us, hl with | [_, _], _ => rfl) (fun f cdv A outer s H vs Q E hr h => ?_)
  · obtain ⟨a, b, rfl, _⟩ := h
    rfl
  · obtain ⟨a, b, rfl, ha, hb, ba, bb, k⟩ := h
    refine ⟨_, (pss_cons (ps_par (i := 2) (j := 3) (by rfl) sc_combination.nd rfl rfl (by decide) rfl rfl (pa_cons (pe_tup (pa_cons (pv 0) (pa_cons pe_int (pa_cons pe_int pa_nil)))) (pa_cons (pe_tup (pa_cons (pv 1) (pa_cons pe_int (pa_cons pe_int pa_nil)))) pa_nil)) (by rfl))
      (pss_cons (ps_while PassesOwn.never (pt_cmpR op_ne (pe_ix ix_tup (pv 3) pe_int (fun _ _ => rfl)) pe_int (nomark _)) (pss_cons (ps_set (i := 4) sc_combination.nd rfl (Or.inl rfl) (pe_op op_fdivW (pe_ix ix_tup (pv 2) pe_int (fun _ _ => rfl)) (pe_ix ix_tup (pv 3) pe_int (fun _ _ => rfl))))
      (pss_one (ps_par (i := 2) (j := 3) (by rfl) sc_combination.nd rfl rfl (by decide) rfl rfl (pa_cons (pv 3) (pa_cons (pe_tup (pa_cons (pe_op op_sub (pe_ix ix_tup (pv 2) pe_int (fun _ _ => rfl)) (pe_op op_mulW (pv 4) (pe_ix ix_tup (pv 3) pe_int (fun _ _ => rfl)))) (pa_cons (pe_op op_sub (pe_ix ix_tup (pv 2) pe_int (fun _ _ => rfl)) (pe_op op_mulW (pv 4) (pe_ix ix_tup (pv 3) pe_int (fun _ _ => rfl)))) (pa_cons (pe_op op_sub (pe_ix ix_tup (pv 2) pe_int (fun _ _ => rfl)) (pe_op op_mulW (pv 4) (pe_ix ix_tup (pv 3) pe_int (fun _ _ => rfl)))) pa_nil)))) pa_nil)) (by rfl)))))
      (pss_one (ps_ret (pe_ifExp (pt_cmpR op_ge (pe_ix ix_tup (pv 2) pe_int (fun _ _ => rfl)) pe_int (nomark _)) (pv 2) (pe_tup (pa_cons (pe_un un_neg (pe_ix ix_tup (pv 2) pe_int (fun _ _ => rfl))) (pa_cons (pe_un un_neg (pe_ix ix_tup (pv 2) pe_int (fun _ _ => rfl))) (pa_cons (pe_un un_neg (pe_ix ix_tup (pv 2) pe_int (fun _ _ => rfl))) pa_nil))))))))), ?_⟩
    walk_at "g"
    refine ⟨by show 3 ≤ sizeLine; decide, fun p np => ?_⟩
    walk_at "g"
    refine ⟨by show 3 ≤ sizeLine; decide, fun q nq => ?_⟩
    walk_at "g"
    have npq : p ≠ q := ne_of_none upd_same nq
    refine wh (fun σ H' => Same H H' ∧ ∃ (p q : Addr) (x0 u0 v0 x1 u1 v1 : Int) (pt : Option V), σ = [some (.int a), some (.int b), some (.ref p), some (.ref q), pt] ∧
        H' p = some (.tup [.int x0, .int u0, .int v0]) ∧ H' q = some (.tup [.int x1, .int u1, .int v1]) ∧ Comb a b x0 u0 v0 x1 u1 v1) muComb ?_ ?_ ?_
    · exact ⟨(same_upd np).upd' nq, p, q, _, _, _, _, _, _, _, rfl, (by rw [upd_ne npq]; exact upd_same), upd_same, comb_start ha hb⟩
    · rintro σ H' ⟨s, p, q, x0, u0, v0, x1, u1, v1, pt, rfl, hp, hq, c⟩
      have bx0 : Bd 8001 x0 := ba.two bb c.bx
      walk_at "g"
      refine ite2 (fun cc => ?_) (fun cc => ?_)
      · have hx : x1 ≠ 0 := by simpa using cc
        have px : 0 < x1 := by have := c.n1; omega
        have bx1 : Bd 8001 x1 := ba.two bb c.by_
        have bq : Bd 8001 (x0 / x1) := bx0.div px
        have bu1 : Bd 8001 u1 := (bb.le c.bu1).mono (by omega)
        have bv1 : Bd 8001 v1 := ba.one c.bv1
        refine ⟨_, fun _ _ h => h, ?_⟩
        walk_at "g"
        refine ⟨cdivw px bx1 (by omega), ?_⟩
        walk_at "g"
        refine ⟨cmulw bq bx1 (by omega), ?_⟩
        walk_at "g"
        refine ⟨cmulw bq bu1 (by omega), ?_⟩
        walk_at "g"
        refine ⟨cmulw bq bv1 (by omega), ?_⟩
        walk_at "g"
        refine ⟨by show 3 ≤ sizeLine; decide, fun t nt => ?_⟩
        walk_at "g"
        have nqt : q ≠ t := ne_of_none hq nt
        refine ⟨⟨s.upd' nt, q, t, _, _, _, _, _, _, _, rfl, (by rw [upd_ne nqt]; exact hq), upd_same, comb_step ha hb c hx⟩, ?_⟩
        show muComb [_, _, _, some (.ref t), _] (L2.upd H' t _) < muComb [_, _, _, some (.ref q), _] H'
        unfold muComb
        dsimp only
        rw [upd_same, hq]
        dsimp only
        have e2 : x0 - x0 / x1 * x1 = x0 % x1 := by
          have := Int.emod_add_mul_ediv x0 x1
          rw [Int.mul_comm] at this
          omega
        have := Int.emod_lt_of_pos x0 px
        omega
      · have hx : x1 = 0 := by simpa using cc
        subst hx
        walk_at "g"
        have hg : x0 = Int.gcd a b := by
          have := c.g
          rw [Int.gcd_zero_right] at this
          have := c.n0
          omega
        rw [decide_eq_true c.n0]
        refine iteT ?_
        walk_at "g"
        have h0 := c.h0
        rw [hg] at h0 hp
        exact k p H' u0 v0 s hp h0
    · rintro σ H' Q1 Q2 hq h
      obtain ⟨v, hv, p, xs, i, z, e1, e2, e3, e4, e5, bb, e6, h⟩ := h
      exact ⟨v, hv, p, xs, i, z, e1, e2, e3, e4, e5, bb, e6, hq _ _ h⟩

def spInv : Sp := fun vs H Q _ => ∃ a m : Int, vs = [.int a, .int m] ∧ 0 < m ∧ Int.gcd a m = 1 ∧ Bd 8000 m ∧ ∀ (x : Int) (H' : Hp), Same H H' → Inv1 a m x → Q (.int x) H'
theorem gcd_mod {a m : Int} : Int.gcd (a % m) m = Int.gcd a m := by
  rcases Int.lt_trichotomy m 0 with h | h | h
  · have e : a % m = a % (-m) := (Int.emod_neg a m).symm
    rw [e, Int.gcd_comm, ← Int.neg_gcd (a := m), gcd_step (a := a) (b := -m) (by omega), Int.gcd_neg]
  · subst h
    rw [Int.emod_zero]
  · rw [Int.gcd_comm, gcd_step h]
theorem c_inverse (T : Txt K mg) : Cal P w K mg base 2 "inverse" spInv [] := by
  have c_combination := @c_combination P w K mg base T
  refine calN T.d_inverse sc_inverse (fun vs H Q E h => ?_) (fun _ _ _ _ _ _ us hl => match us, hl with | [_, _], _ => rfl) (fun f cdv A outer s H vs Q E hr h => ?_)
  · obtain ⟨a, b, rfl, _⟩ := h
    rfl
  · obtain ⟨a, m, rfl, hm, hg, bm, k⟩ := h
    refine ⟨_, (pss_one (ps_ret (pe_op op_mod (pe_ix ix_tup (pe_cx c_combination hr (by first | decide | omega) rfl passL (pa_cons (pe_op op_mod (pv 0) (pv 1)) (pa_cons (pv 1) pa_nil))) pe_int (fun _ _ => rfl)) (pv 1)))), ?_⟩
    walk_at "g"
    refine ⟨hm, ?_⟩
    walk_at "g"
    refine ⟨Int.emod_nonneg _ (by omega), hm, Bd.mod bm hm, bm, fun p H' u v s' hp he => ?_⟩
    have e : Int.gcd (a % m) m = 1 := gcd_mod.trans hg
    rw [e] at hp he
    walk_at "g"
    exact ⟨hm, k _ H' s' (inv_of hm he)⟩

/-! ### tidy_classes -/
theorem unzip {H : Hp} {g : Int × Int → List Int} {ys : List V} {cs : List (Int × Int)} (h : P2 (fun y c => ∃ t, y = .ref t ∧ H t = some (.tup ((g c).map V.int))) ys cs) :
    ∃ ks : List (Addr × List Int), ys = ks.map (fun p => V.ref p.1) ∧ ks.map (·.2) = cs.map g ∧ ∀ p ∈ ks, H p.1 = some (.tup (p.2.map V.int)) := by
  induction h with
  | nil => exact ⟨[], rfl, rfl, fun p hp => nomatch hp⟩
  | cons r _ ih =>
    obtain ⟨t, e, ht⟩ := r
    obtain ⟨ks, e1, e2, h3⟩ := ih
    rename_i b0 _ _ _
    refine ⟨(t, g b0) :: ks, by rw [e, e1]; rfl, by simp only [List.map_cons, e2], fun p hp => ?_⟩
    rcases List.mem_cons.mp hp with rfl | hp
    · exact ht
    · exact h3 p hp
/-- a row of made pairs, as pairs -/
theorem to_pairs {H : Hp} (L : List (Addr × List Int)) (h : ∀ q ∈ L, H q.1 = some (.tup (q.2.map V.int))) (h2 : ∀ q ∈ L, ∃ a b, q.2 = [a, b]) :
    P2 (PrT H) (L.map (·.1)) (L.map fun q => (q.2.getD 0 0, q.2.getD 1 0)) := by
  induction L with
  | nil => exact .nil
  | cons q L ih =>
    refine .cons ?_ (ih (fun q hq => h q (List.mem_cons_of_mem _ hq)) fun q hq => h2 q (List.mem_cons_of_mem _ hq))
    obtain ⟨a, b, e⟩ := h2 q List.mem_cons_self
    have := h q List.mem_cons_self
    rw [e] at this
    show H q.1 = some (.tup [.int (q.2.getD 0 0), .int (q.2.getD 1 0)])
    rw [e]
    exact this
def spTidy : Sp := fun vs H Q _ => ∃ (p : Addr) (cs : List Cl), vs = [.ref p] ∧ PL H p cs ∧ (∀ c ∈ cs, 0 < c.2 ∧ Bd 8000 c.2) ∧ cs.length < 64 ∧
  ∀ (p' : Addr) (ds : List Cl) (H' : Hp), Same H H' → H p' = none → PL H' p' ds → Tidy cs ds → Q (.ref p') H'
theorem bd_lt {n : Nat} {x : Int} (h : Bd n x) : x < ((2 ^ n : Nat) : Int) := by
  have h' : x.natAbs < 2 ^ n := h
  generalize 2 ^ n = z at *
  omega
theorem c_tidy_classes (T : Txt K mg) : Cal P w K mg base 1 "tidy_classes" spTidy [] := by
  refine calN T.d_tidy_classes sc_tidy_classes (fun vs H Q E h => ?_) (fun _ _ _ _ _ _ us hl => match us, hl with | [_], _ => rfl) (fun f cdv A outer s H vs Q E hr h => ?_)
  · obtain ⟨a, b, rfl, _⟩ := h
    rfl
  · obtain ⟨p, cs, rfl, ⟨ts, hp, pp⟩, hc, h64, k⟩ := h
    refine ⟨_, (pss_cons (ps_set (i := 1) sc_tidy_classes.nd rfl (Or.inl rfl) (pe_lst pa_nil))
      (pss_cons (ps_for PassesOwn.never rfl (pi_list (pe_callB (cr_sortedT rfl) (by rfl) T.b_sorted (by decide +kernel) (pa_cons (pe_callTy (cr_setOfT rfl (units_of hr)) (by rfl) T.b_set (by decide +kernel) (pa_cons (pe_lc (own := [("r", 3), ("m", 2)]) (g := gTup K 2 (gCons (gName 3) (gCons (gName 2) gNil))) rfl sc_tidy_classes.nd (pi_listK K (pv 0)) (blkOk_by (own := [("r", 3), ("m", 2)]) (N := ["classes", "kept", "m", "r", "s", "k"]) (sc := defScope s_tidy_classes) (by decide +kernel)) (fun _ _ _ _ _ => (pg_tup rfl (pgs_cons (pg_name (i := 3) sc_tidy_classes.nd rfl (Or.inl rfl)) (pgs_cons (pg_name (i := 2) sc_tidy_classes.nd rfl (Or.inl rfl)) pgs_nil)))) (fun _ _ _ _ _ => pts_nil) (fun _ _ _ _ _ => (pe_tup (pa_cons (pv 2) (pa_cons (pe_op op_mod (pv 3) (pv 2)) pa_nil))))) pa_nil)) pa_nil))) (pg_tup rfl (pgs_cons (pg_name (i := 2) sc_tidy_classes.nd rfl (Or.inr rfl)) (pgs_cons (pg_name (i := 3) sc_tidy_classes.nd rfl (Or.inr rfl)) pgs_nil))) (pss_one (ps_if (pt_not (pt_val (pe_callB (cr_any rfl) (by rfl) T.b_any (by decide +kernel) (pa_cons (pe_lc (own := [("s", 4), ("k", 5)]) (g := gTup K 2 (gCons (gName 4) (gCons (gName 5) gNil))) rfl sc_tidy_classes.nd (pi_listK K (pv 1)) (blkOk_by (own := [("s", 4), ("k", 5)]) (N := ["classes", "kept", "m", "r", "s", "k"]) (sc := defScope s_tidy_classes) (by decide +kernel)) (fun _ _ _ _ _ => (pg_tup rfl (pgs_cons (pg_name (i := 4) sc_tidy_classes.nd rfl (Or.inl rfl)) (pgs_cons (pg_name (i := 5) sc_tidy_classes.nd rfl (Or.inl rfl)) pgs_nil)))) (fun _ _ _ _ _ => pts_nil) (fun _ _ _ _ _ => (pe_and (pe_cmpR op_eq (pe_op op_mod (pv 2) (pv 5)) pe_int (nomark _)) (pe_one (pe_cmpR op_eq (pe_op op_mod (pe_op op_sub (pv 3) (pv 4)) (pv 5)) pe_int (nomark _)))))) pa_nil)))) (pss_one (ps_expr (pe_bm PySem.F.plainAttrs_list PySem.F.slot_list_append PySem.F.type_list_append mt_append (pv 1) (pa_cons (pe_tup (pa_cons (pv 3) (pa_cons (pv 2) pa_nil))) pa_nil)))) pss_nil)))
      (pss_one (ps_ret (pv 1))))), ?_⟩
    walk_at "g"
    refine ⟨by show 0 ≤ sizeLine; decide, fun l nl => ?_⟩
    walk_at "g"
    have s1 : Same H (upd H l (.lst [])) := same_upd nl
    refine ⟨⟨_, SqL.of (s1 _ _ hp)⟩, fun D nD => ?_⟩
    refine lc_pairs (fun _ => true) (fun y c H => ∃ t, y = .ref t ∧ H t = some (.tup ([c.2, c.1 % c.2].map V.int))) ?_ nD (SqL.of (s1 _ _ hp)) (pp.same s1) (by omega) (fun _ _ => rfl) (fun c _ H Q _ q => q H (Same.refl H)) ?_ ?_
    · rintro y c H H' acc hD kp ⟨t, rfl, ht⟩
      exact ⟨t, rfl, kp _ _ ht (ne_of ht hD (by intro z; cases z))⟩
    · intro c hcm _ H2 Q2 s2 q
      walk_at "g"
      refine ⟨(hc c hcm).1, by show 2 ≤ sizeLine; decide, fun t nt => ?_⟩
      exact q _ _ (same_upd nt) ⟨t, rfl, upd_same⟩
    · intro ys H2 s2 hD2 py
      rw [filter_all] at py
      obtain ⟨ks, rfl, e2, hk⟩ := unzip py
      have lk : ks.length = cs.length := by
        have := congrArg List.length e2
        simpa using this
      walk_at "g"
      refine ⟨D, ks, rfl, SqL.of hD2, fun q hq => SqT.of (hk q hq), by omega, fun S L nS hL1 hL2 => ?_⟩
      walk_at "g"
      have s3 : Same H2 (upd H2 S (SetTO P w S L)) := same_upd nS
      refine ⟨S, L, 2, ((2 ^ 8000 : Nat) : Int), rfl, upd_same, fun q hq => SqT.of (s3 _ _ (hk q (hL1 q hq))), by decide, fun q hq => ?_, fun L' pL pm nd l64 _ nL => ?_⟩
      · have hm : q.2 ∈ cs.map fun c => [c.2, c.1 % c.2] := by
          rw [← e2]
          exact List.mem_map_of_mem (hL1 q hq)
        obtain ⟨c, hcm, ec⟩ := List.mem_map.mp hm
        rw [← ec]
        have hb := hc c hcm
        refine ⟨rfl, fun m hm => ?_⟩
        have b1 := bd_lt hb.2
        rcases List.mem_cons.mp hm with rfl | hm
        · exact ⟨Int.le_of_lt hb.1, b1⟩
        · rcases List.mem_cons.mp hm with rfl | hm
          · exact ⟨Int.emod_nonneg _ (by have := hb.1; omega), Int.lt_trans (Int.emod_lt_of_pos _ hb.1) b1⟩
          · cases hm
      · -- the loop over the sorted pairs (m, r)
        have hin : ∀ q ∈ L', q ∈ ks := fun q hq => hL1 q (pm.mem_iff.mp hq)
        have hval : ∀ q ∈ L', ∃ c ∈ cs, q.2 = [c.2, c.1 % c.2] := fun q hq => by
          have hm : q.2 ∈ cs.map fun c => [c.2, c.1 % c.2] := by
            rw [← e2]
            exact List.mem_map_of_mem (hin q hq)
          obtain ⟨c, hcm, ec⟩ := List.mem_map.mp hm
          exact ⟨c, hcm, ec.symm⟩
        have hlen : L'.length ≤ cs.length := by
          have n1 : (L'.map (·.2)).length ≤ (cs.map fun c => [c.2, c.1 % c.2]).length := nodup_len _ _ nd fun x hx => by
            obtain ⟨q, hq, rfl⟩ := List.mem_map.mp hx
            obtain ⟨c, hcm, ec⟩ := hval q hq
            rw [ec]
            exact List.mem_map_of_mem hcm
          simpa using n1
        generalize hms : (L'.map fun q => (q.2.getD 0 0, q.2.getD 1 0) : List (Int × Int)) = ms
        have s4 : Same H (upd (upd H2 S (SetTO P w S L)) pL (.lst (L'.map fun q => V.ref q.1))) := ((s1.trans s2).trans s3).upd' nL
        have hpairs : P2 (PrT (upd (upd H2 S (SetTO P w S L)) pL (.lst (L'.map fun q => V.ref q.1)))) (L'.map (·.1)) ms := by
          rw [← hms]
          refine to_pairs L' (fun q hq => ?_) fun q hq => ?_
          · exact (same_upd nL) _ _ (s3 _ _ (hk q (hin q hq)))
          · obtain ⟨c, _, ec⟩ := hval q hq
            exact ⟨_, _, ec⟩
        have hms1 : ∀ q ∈ ms, ∃ c ∈ cs, q = (c.2, c.1 % c.2) := by
          rw [← hms]
          intro q hq
          obtain ⟨q', hq', rfl⟩ := List.mem_map.mp hq
          obtain ⟨c, hcm, ec⟩ := hval q' hq'
          exact ⟨c, hcm, by rw [ec]; rfl⟩
        have hms2 : ∀ c ∈ cs, (c.2, c.1 % c.2) ∈ ms := by
          intro c hcm
          have : [c.2, c.1 % c.2] ∈ ks.map (·.2) := by rw [e2]; exact List.mem_map_of_mem hcm
          obtain ⟨q, hq, eq⟩ := List.mem_map.mp this
          obtain ⟨q', hq', eq'⟩ := List.mem_map.mp (hL2 q hq)
          rw [← hms]
          refine List.mem_map.mpr ⟨q', pm.mem_iff.mpr hq', ?_⟩
          rw [eq', eq]
          rfl
        have lms : ms.length ≤ cs.length := by rw [← hms, List.length_map]; exact hlen
        refine ⟨_, rfl, ⟨_, SqL.of upd_same⟩, ?_⟩
        have sp : Same H2 (upd (upd H2 S (SetTO P w S L)) pL (.lst (L'.map fun q => V.ref q.1))) := s3.upd' nL
        have hl2 : H2 l = some (.lst []) := s2 _ _ (upd_same : upd H l (.lst []) l = _)
        have hp4 := @upd_same (upd H2 S (SetTO P w S L)) pL (.lst (L'.map fun q => V.ref q.1))
        have hpl : pL ≠ l := (ne_of_none (s3 _ _ hl2) nL).symm
        obtain ⟨H4, e4⟩ : ∃ H4, H4 = upd (upd H2 S (SetTO P w S L)) pL (.lst (L'.map fun q => V.ref q.1)) := ⟨_, rfl⟩
        rw [← e4] at hp4 sp s4 hpairs
        have em : (L'.map fun q => V.ref q.1) = (L'.map (·.1)).map V.ref := by rw [List.map_map]; rfl
        rw [em] at hp4
        refine for_pairs (ts := L'.map (·.1)) (cs := ms) (fun i σ H' => ∃ (ds : List Cl) (kts : List Addr) (mv rv : Option V), σ = [some (.ref p), some (.ref l), mv, rv, none, none] ∧
            Same H H' ∧ (∀ b o, H4 b = some o → b ≠ l → H' b = some o) ∧ H' l = some (.lst (kts.map V.ref)) ∧ P2 (PrT H') kts ds ∧ (∀ d ∈ ds, ∃ c ∈ cs, d.2 = c.2 ∧ d.1 = c.1 % c.2) ∧
            (∀ q ∈ ms.take i, ∃ d ∈ ds, d.2 ∣ q.1 ∧ d.2 ∣ q.2 - d.1) ∧ ds.length ≤ i) ?_ ?_ ?_ ?_
        · subst e4
          exact ⟨[], [], none, none, rfl, s4, fun b o e _ => e, sp _ _ hl2, .nil, (fun d hd => by cases hd), (fun q hq => by cases hq), Nat.zero_le _⟩
        · rintro i σ H' hi ⟨ds, kts, mv, rv, rfl, s5, k5, _⟩
          refine ⟨SqL.of (k5 _ _ hp4 hpl), hpairs.monoM fun t c ht _ e => k5 _ _ e ?_⟩
          exact ne_of e (sp _ _ hl2) (by intro z; cases z)
        · rintro i q σ H' hq ⟨ds, kts, mv, rv, rfl, s5, k5, hl5, pk, h1, h2, h3⟩
          have pos : ∀ d ∈ ds, 0 < d.2 := fun d hd => by
            obtain ⟨c, hcm, e, _⟩ := h1 d hd
            rw [e]
            exact (hc c hcm).1
          walk_at "g"
          refine ⟨⟨_, SqL.of hl5⟩, fun D nD => ?_⟩
          refine lc_pairs (fun _ => true) (fun y d _ => y = .bl (decide (q.1 % d.2 = 0) && decide ((q.2 - d.1) % d.2 = 0))) (fun _ _ _ _ _ _ _ e => e) nD (SqL.of hl5) pk (by have := (List.getElem?_eq_some_iff.mp hq).1; omega) (fun _ _ => rfl) (fun c _ H Q _ q => q H (Same.refl H)) ?_ ?_
          · intro d hd _ H6 Q6 s6 k6
            walk_at "g"
            refine ⟨pos d hd, ?_⟩
            walk_at "g"
            refine iteB (fun c1 => ?_) (fun c1 => ?_)
            · walk_at "g"
              refine ⟨pos d hd, ?_⟩
              walk_at "g"
              refine k6 _ H6 (Same.refl _) ?_
              rw [dI, decide_eq_true (of_dI c1), Bool.true_and]
            · refine k6 _ H6 (Same.refl _) ?_
              rw [decide_eq_false (of_dI' c1), Bool.false_and]
          · intro ys H6 s6 hD6 py
            rw [filter_all] at py
            have ey := py.eq_map
            walk_at "g"
            refine ⟨D, ds.map fun d => decide (q.1 % d.2 = 0) && decide ((q.2 - d.1) % d.2 = 0), rfl, SqL.of (by rw [hD6, ey, List.map_map]; rfl), ?_⟩
            walk_at "g"
            have hin : i < ms.length := (List.getElem?_eq_some_iff.mp hq).1
            cases ha : (ds.map fun d => decide (q.1 % d.2 = 0) && decide ((q.2 - d.1) % d.2 = 0)).any id with
            | true =>
              refine iteF ⟨ds, kts, _, _, rfl, s5.trans s6, fun b o e n => s6 _ _ (k5 b o e n), s6 _ _ hl5, pk.same s6, h1, fun q' hq' => ?_, by omega⟩
              rw [take_snoc hq] at hq'
              rcases List.mem_append.mp hq' with hq' | hq'
              · exact h2 q' hq'
              · rw [List.mem_singleton.mp hq']
                obtain ⟨x, hx, ex⟩ := List.any_eq_true.mp ha
                obtain ⟨d, hd, rfl⟩ := List.mem_map.mp hx
                have ex' := Bool.and_eq_true_iff.mp ex
                exact ⟨d, hd, Int.dvd_of_emod_eq_zero (of_decide_eq_true ex'.1), Int.dvd_of_emod_eq_zero (of_decide_eq_true ex'.2)⟩
            | false =>
              refine iteT ?_
              walk_at "g"
              refine ⟨.inl ⟨rfl, _, SqL.of (s6 _ _ hl5)⟩, ?_⟩
              walk_at "g"
              refine ⟨by show 2 ≤ sizeLine; decide, fun t nt => ?_⟩
              walk_at "g"
              have s7 : Same H6 (upd H6 t (.tup [.int q.2, .int q.1])) := same_upd nt
              have ntl : l ≠ t := ne_of_none (s6 _ _ hl5) nt
              refine ⟨l, kts.map V.ref, _, rfl, rfl, s7 _ _ (s6 _ _ hl5), small_app (m := 100000) (by have := pk.len; simp; omega) (Nat.le_refl _), ?_⟩
              have s8 := s6.trans s7
              refine ⟨ds ++ [(q.2, q.1)], kts ++ [t], _, _, rfl, (s5.trans s8).wr nl, fun b o e n => by rw [upd_ne n]; exact s8 _ _ (k5 b o e n), by rw [List.map_append]; exact upd_same, ?_, fun d hd => ?_, fun q' hq' => ?_, by rw [List.length_append]; exact Nat.succ_le_succ h3⟩
              · have tup : ∀ {u : Addr} {c : Int × Int}, PrT (upd H6 t (.tup [.int q.2, .int q.1])) u c → PrT (upd (upd H6 t (.tup [.int q.2, .int q.1])) l (.lst (kts.map V.ref ++ [V.ref t]))) u c := fun {u c} e => by
                  have n : u ≠ l := ne_of e (s7 _ _ (s6 _ _ hl5)) (by intro z; cases z)
                  show upd _ _ _ u = _
                  rw [upd_ne n]
                  exact e
                exact ((pk.same s8).mono fun _ _ e => tup e).snoc (tup upd_same)
              · rcases List.mem_append.mp hd with hd | hd
                · exact h1 d hd
                · rw [List.mem_singleton.mp hd]
                  obtain ⟨c, hcm, ec⟩ := hms1 q (mem_of_at hq)
                  exact ⟨c, hcm, by rw [ec], by rw [ec]⟩
              · rw [take_snoc hq] at hq'
                rcases List.mem_append.mp hq' with hq' | hq'
                · obtain ⟨d, hd, e⟩ := h2 q' hq'
                  exact ⟨d, List.mem_append_left _ hd, e⟩
                · rw [List.mem_singleton.mp hq']
                  exact ⟨_, List.mem_append_right _ List.mem_cons_self, Int.dvd_refl _, by rw [Int.sub_self]; exact Int.dvd_zero _⟩
        · rintro σ H' ⟨ds, kts, mv, rv, rfl, s5, k5, hl5, pk, h1, h2, h3⟩
          walk_at "g"
          refine k l ds H' s5 nl ⟨kts, hl5, pk⟩ ⟨h1, fun c hcm => ?_, by omega⟩
          rw [List.take_length] at h2
          obtain ⟨d, hd, d1, d2⟩ := h2 _ (hms2 c hcm)
          refine ⟨d, hd, d1, ?_⟩
          obtain ⟨z, hz⟩ := Int.dvd_add (Int.dvd_trans d1 (emod_sub_dvd c.1 c.2)) d2
          exact ⟨z, by rw [← hz]; omega⟩
end
end Tr

namespace Tr
open PySem L2
/-- steps of a reading that are plain -/
local macro_rules | `(tactic| walk_at "x") => `(tactic| (refine' ⟨_, _, _, _, rfl, rfl, ?k1, ?k2, ?_⟩; (case k1 => exact SqT.of (by assumption)); (case k2 => exact rfl)))
local macro_rules | `(tactic| walk_at "g") => `(tactic| repeat (first | (refine ⟨_, rfl, ?_⟩) | (refine ⟨_, _, rfl, rfl, ?_⟩) | (refine ⟨_, _, rfl, ?_⟩) | (refine ⟨rfl, ?_⟩) | walk_at "x"))


/-- a pair is appended to a list of pairs -/
theorem pl_snoc {H : Hp} {l u : Addr} {kts : List Addr} {ds : List Cl} {c : Cl} {xs : List V} {ys : List V} (hl : H l = some (.lst xs)) (pk : P2 (PrT H) kts ds) (hu : PrT H u c) :
    P2 (PrT (upd H l (.lst ys))) (kts ++ [u]) (ds ++ [c]) := by
  have tup : ∀ {u : Addr} {c : Int × Int}, PrT H u c → PrT (upd H l (.lst ys)) u c := fun {u c} e => by
    have n : u ≠ l := ne_of e hl (by intro z; cases z)
    show upd _ _ _ u = _
    rw [upd_ne n]
    exact e
  exact (pk.mono fun _ _ e => tup e).snoc (tup hu)
theorem RefL.bdB {r m : Int} {n : Nat} {cs ds : List Cl} (h : RefL r m cs ds) (hb : ∀ c ∈ cs, 0 < c.2 ∧ Bd n c.2) : ∀ d ∈ ds, Bd n d.2 := by
  induction h with
  | nil => intro d hd; cases hd
  | no _ _ ih => exact ih fun c hc => hb c (List.mem_cons_of_mem _ hc)
  | yes _ hr _ ih =>
    intro d hd
    rcases List.mem_cons.mp hd with rfl | hd
    · have b := hb _ List.mem_cons_self
      exact b.2.le (by have := hr.bd; have := hr.pos; have := b.1; omega)
    · exact ih (fun c hc => hb c (List.mem_cons_of_mem _ hc)) d hd
section
variable {P : Program} {w : World} {K : PySem.W.Frag} {mg : Str → Option Value} {base : Heap}
/-! ### refined -/
/-- the promise of refined -/
structure Refd (r m : Int) (cs es : List Cl) : Prop where
  ex : ∃ ds, RefL r m cs ds ∧ Tidy ds es
def spRef : Sp := fun vs H Q _ => ∃ (p : Addr) (cs : List Cl) (r m : Int), vs = [.ref p, .int r, .int m] ∧ PL H p cs ∧ 0 < m ∧ Bd 8000 m ∧ Bd 8000 r ∧ (∀ c ∈ cs, 0 < c.2 ∧ Bd 8000 c.2 ∧ Bd 8000 c.1) ∧ cs.length < 64 ∧
  ∀ (p' : Addr) (es : List Cl) (H' : Hp), Same H H' → H p' = none → PL H' p' es → Refd r m cs es → Q (.ref p') H'
theorem c_refined (T : Txt K mg) : Cal P w K mg base 3 "refined" spRef [] := by
  have c_common_divisor := @c_common_divisor P w K mg base T
  have c_inverse := @c_inverse P w K mg base T
  have c_tidy_classes := @c_tidy_classes P w K mg base T
  refine calN T.d_refined sc_refined (fun vs H Q E h => ?_) (fun _ _ _ _ _ _ us hl => match us, hl with | [_, _, _], _ => rfl) (fun f cdv A outer s H vs Q E hr h => ?_)
  · obtain ⟨p, cs, r, m, rfl, _⟩ := h
    rfl
  · obtain ⟨p, cs, r, m, rfl, ⟨ts, hp, pp⟩, hm, bm, br, hc, h64, k⟩ := h
    refine ⟨_, (pss_cons (ps_set (i := 3) sc_refined.nd rfl (Or.inl rfl) (pe_lst pa_nil))
      (pss_cons (ps_for PassesOwn.never rfl (pi_list (pv 0)) (pg_tup rfl (pgs_cons (pg_name (i := 4) sc_refined.nd rfl (Or.inl rfl)) (pgs_cons (pg_name (i := 5) sc_refined.nd rfl (Or.inl rfl)) pgs_nil))) (pss_cons (ps_set (i := 6) sc_refined.nd rfl (Or.inl rfl) (pe_cx c_common_divisor hr (by first | decide | omega) rfl passL (pa_cons (pv 2) (pa_cons (pv 5) pa_nil))))
      (pss_one (ps_if (pt_cmpR op_eq (pe_op op_mod (pe_op op_sub (pv 4) (pv 1)) (pv 6)) pe_int (nomark _)) (pss_cons (ps_set (i := 7) sc_refined.nd rfl (Or.inl rfl) (pe_op op_fdivW (pv 5) (pv 6)))
      (C8.pss_cut (ps_set (i := 8) sc_refined.nd rfl (Or.inl rfl) (pe_ifExp (pt_cmpR op_gt (pv 7) pe_int (nomark _)) (pe_op op_mod (pe_op op_mulW (pe_op op_fdivW (pe_op op_sub (pv 4) (pv 1)) (pv 6)) (pe_cx c_inverse hr (by first | decide | omega) rfl passL (pa_cons (pe_op op_fdivW (pv 2) (pv 6)) (pa_cons (pv 7) pa_nil)))) (pv 7)) pe_int))
      (pss_one (ps_expr (pe_bm PySem.F.plainAttrs_list PySem.F.slot_list_append PySem.F.type_list_append mt_append (pv 3) (pa_cons (pe_tup (pa_cons (pv 8) (pa_cons (pv 7) pa_nil))) pa_nil)))))) pss_nil))))
      (pss_one (ps_ret (pe_cx c_tidy_classes hr (by first | decide | omega) rfl passL (pa_cons (pv 3) pa_nil)))))), ?_⟩
    walk_at "g"
    refine ⟨by show 0 ≤ sizeLine; decide, fun l nl => ?_⟩
    walk_at "g"
    have s1 : Same H (upd H l (.lst [])) := same_upd nl
    refine ⟨⟨_, SqL.of (s1 _ _ hp)⟩, ?_⟩
    refine for_pairs (ts := ts) (cs := cs) (fun i σ H' => ∃ (ds : List Cl) (kts : List Addr) (a1 a2 a3 a4 a5 : Option V), σ = [some (.ref p), some (.int r), some (.int m), some (.ref l), a1, a2, a3, a4, a5] ∧
        Same H H' ∧ H' l = some (.lst (kts.map V.ref)) ∧ P2 (PrT H') kts ds ∧ RefL r m (cs.take i) ds) ?_ ?_ ?_ ?_
    · exact ⟨[], [], _, _, _, _, _, rfl, s1, upd_same, .nil, .nil⟩
    · rintro i σ H' hi ⟨ds, kts, a1, a2, a3, a4, a5, rfl, s5, _⟩
      exact ⟨SqL.of (s5 _ _ hp), pp.same s5⟩
    · rintro i c σ H' hq ⟨ds, kts, a1, a2, a3, a4, a5, rfl, s5, hl5, pk, rl⟩
      have hi : i < cs.length := (List.getElem?_eq_some_iff.mp hq).1
      have hcc := hc c (mem_of_at hq)
      have g0 : 0 < (Int.gcd m c.2 : Int) := gcd_pos hcc.1
      have gb : Bd 8000 (Int.gcd m c.2 : Int) := gcd_bd hcc.1 hcc.2.1
      walk_at "g"
      refine ⟨g0, ?_⟩
      walk_at "g"
      refine iteB (fun c1 => ?_) (fun c1 => ?_)
      · have hd : (Int.gcd m c.2 : Int) ∣ c.1 - r := Int.dvd_of_emod_eq_zero (of_dI c1)
        walk_at "g"
        refine ⟨cdivw g0 gb (by omega), ?_⟩
        walk_at "g"
        refine ⟨fun σ' H6 => ∃ t : Int, σ' = [some (.ref p), some (.int r), some (.int m), some (.ref l), some (.int c.1), some (.int c.2), some (.int (Int.gcd m c.2)), some (.int (c.2 / Int.gcd m c.2)), some (.int t)] ∧
            Same H' H6 ∧ Ref1 c.1 c.2 r m t (c.2 / Int.gcd m c.2), ?_, ?_⟩
        · walk_at "g"
          refine iteB (fun c2 => ?_) (fun c2 => ?_)
          · have hs : 1 < c.2 / (Int.gcd m c.2 : Int) := of_decide_eq_true c2
            obtain ⟨m', k', e1, e2, e3, e4, e5, e6⟩ := ediv_gcd (m := m) hcc.1
            walk_at "g"
            refine ⟨cdivw g0 gb (by omega), ?_⟩
            walk_at "g"
            refine ⟨cdivw g0 gb (by omega), ?_⟩
            walk_at "g"
            refine ⟨by omega, by rw [e4, e5]; exact e6, hcc.2.1.div g0, fun x H6 s6 hx => ?_⟩
            walk_at "g"
            refine ⟨cmulw (((hcc.2.2.sub br (m := 8001) (by omega)).div g0)) (m := 8000) ?_ (by omega), ?_⟩
            · exact (hcc.2.1.div g0).le (by have := hx.1; have := hx.2.1; omega)
            walk_at "g"
            refine ⟨by omega, _, rfl, s6, ref_yes hcc.1 hd hx⟩
          · have hs : ¬ c.2 / (Int.gcd m c.2 : Int) > 1 := of_decide_eq_false c2
            exact ⟨0, rfl, Same.refl _, ref_one hcc.1 hd hs⟩
        · rintro σ' H6 ⟨t, rfl, s6, R1⟩
          walk_at "g"
          refine ⟨.inl ⟨rfl, _, SqL.of (s6 _ _ hl5)⟩, ?_⟩
          walk_at "g"
          refine ⟨by show 2 ≤ sizeLine; decide, fun u nu => ?_⟩
          walk_at "g"
          have s7 : Same H6 (upd H6 u (.tup [.int t, .int (c.2 / Int.gcd m c.2)])) := same_upd nu
          have s8 := s6.trans s7
          refine ⟨l, kts.map V.ref, _, rfl, rfl, s8 _ _ hl5, small_app (m := 100000) (by have := pk.len; have := rl.len; simp at *; omega) (Nat.le_refl _), ?_⟩
          walk_at "g"
          refine ⟨ds ++ [(t, c.2 / Int.gcd m c.2)], kts ++ [u], _, _, _, _, _, rfl, (s5.trans s8).wr nl, by rw [List.map_append]; exact upd_same, ?_, ?_⟩
          · exact pl_snoc (s8 _ _ hl5) (pk.same s8) upd_same
          · rw [take_snoc hq]
            exact rl.snoc_yes hd R1
      · have hd : ¬ (Int.gcd m c.2 : Int) ∣ c.1 - r := fun h => of_dI' c1 (Int.emod_eq_zero_of_dvd h)
        refine ⟨ds, kts, _, _, _, _, _, rfl, s5, hl5, pk, ?_⟩
        rw [take_snoc hq]
        exact rl.snoc_no hd
    · rintro σ H' ⟨ds, kts, a1, a2, a3, a4, a5, rfl, s5, hl5, pk, rl⟩
      rw [List.take_length] at rl
      walk_at "g"
      refine ⟨l, ds, rfl, ⟨kts, hl5, pk⟩, fun d hd => ⟨(rl.pos d hd).1, ?_⟩, by have := rl.len; omega, fun p' es H6 s6 np' he td => ?_⟩
      · have h1 := (rl.pos d hd).1
        exact RefL.bdB rl (fun c hcm => ⟨(hc c hcm).1, (hc c hcm).2.1⟩) d hd
      · exact k p' es H6 (s5.trans s6) (s5.free np') he ⟨ds, rl, td⟩
end
end Tr

namespace Tr
open PySem L2
/-- steps of a reading that are plain -/
local macro_rules | `(tactic| walk_at "x") => `(tactic| (refine' ⟨_, _, _, _, rfl, rfl, ?k1, ?k2, ?_⟩; (case k1 => exact SqT.of (by assumption)); (case k2 => exact rfl)))
local macro_rules | `(tactic| walk_at "g") => `(tactic| repeat (first | (refine ⟨_, rfl, ?_⟩) | (refine ⟨_, _, rfl, rfl, ?_⟩) | (refine ⟨_, _, rfl, ?_⟩) | (refine ⟨rfl, ?_⟩) | walk_at "x"))


/-! ### is_covered -/
def covB (cs : List Cl) (n : Int) : Bool := cs.any fun c => decide ((n - c.1) % c.2 = 0)
theorem covB_iff (cs : List Cl) (n : Int) : covB cs n = true ↔ cov cs n := by
  unfold covB cov
  rw [List.any_eq_true]
  constructor
  · rintro ⟨c, hc, e⟩
    exact ⟨c, hc, Int.dvd_of_emod_eq_zero (of_decide_eq_true e)⟩
  · rintro ⟨c, hc, e⟩
    exact ⟨c, hc, decide_eq_true (Int.emod_eq_zero_of_dvd e)⟩
theorem covB_no {cs : List Cl} {n : Int} (h : ¬ cov cs n) : covB cs n = false := by
  cases e : covB cs n with
  | false => rfl
  | true => exact (h ((covB_iff cs n).mp e)).elim
section
variable {P : Program} {w : World} {K : PySem.W.Frag} {mg : Str → Option Value} {base : Heap}
def spCov : Sp := fun vs H Q _ => ∃ (n : Int) (p : Addr) (cs : List Cl), vs = [.int n, .ref p] ∧ PL H p cs ∧ (∀ c ∈ cs, 0 < c.2) ∧ cs.length ≤ 100000 ∧ ∀ H', Same H H' → Q (.bl (covB cs n)) H'
theorem c_is_covered (T : Txt K mg) : Cal P w K mg base 1 "is_covered" spCov [] := by
  refine calN T.d_is_covered sc_is_covered (fun vs H Q E h => ?_) (fun _ _ _ _ _ _ us hl => match us, hl with | [_, _], _ => rfl) (fun f cdv A outer s H vs Q E hr h => ?_)
  · obtain ⟨n, p, cs, rfl, _⟩ := h
    rfl
  · obtain ⟨n, p, cs, rfl, ⟨ts, hp, pp⟩, hc, hl, k⟩ := h
    refine ⟨_, (pss_one (ps_ret (pe_callB (cr_any rfl) (by rfl) T.b_any (by decide +kernel) (pa_cons (pe_lc (own := [("r", 2), ("m", 3)]) (g := gTup K 2 (gCons (gName 2) (gCons (gName 3) gNil))) rfl sc_is_covered.nd (pi_listK K (pv 1)) (blkOk_by (own := [("r", 2), ("m", 3)]) (N := ["n", "classes", "r", "m"]) (sc := defScope s_is_covered) (by decide +kernel)) (fun _ _ _ _ _ => (pg_tup rfl (pgs_cons (pg_name (i := 2) sc_is_covered.nd rfl (Or.inl rfl)) (pgs_cons (pg_name (i := 3) sc_is_covered.nd rfl (Or.inl rfl)) pgs_nil)))) (fun _ _ _ _ _ => pts_nil) (fun _ _ _ _ _ => (pe_cmpR op_eq (pe_op op_mod (pe_op op_sub (pv 0) (pv 2)) (pv 3)) pe_int (nomark _)))) pa_nil)))), ?_⟩
    walk_at "g"
    refine ⟨⟨_, SqL.of hp⟩, fun D nD => ?_⟩
    refine lc_pairs (fun _ => true) (fun y c _ => y = .bl (decide ((n - c.1) % c.2 = 0))) (fun _ _ _ _ _ _ _ e => e) nD (SqL.of hp) pp hl (fun _ _ => rfl) (fun c _ H Q _ q => q H (Same.refl H)) ?_ ?_
    · intro c hcm _ H2 Q2 s2 q
      walk_at "g"
      refine ⟨hc c hcm, ?_⟩
      walk_at "g"
      refine q _ _ (Same.refl _) ?_
      rw [dI]
    · intro ys H2 s2 hD2 py
      rw [filter_all] at py
      have ey := py.eq_map
      walk_at "g"
      refine ⟨D, cs.map fun c => decide ((n - c.1) % c.2 = 0), rfl, SqL.of (by rw [hD2, ey, List.map_map]; rfl), ?_⟩
      have e : (cs.map fun c => decide ((n - c.1) % c.2 = 0)).any id = covB cs n := by
        unfold covB
        rw [List.any_map]
        rfl
      rw [e]
      exact k H2 s2
end
end Tr

namespace Tr
open PySem L2
/-- steps of a reading that are plain -/
local macro_rules | `(tactic| walk_at "x") => `(tactic| (refine' ⟨_, _, _, _, rfl, rfl, ?k1, ?k2, ?_⟩; (case k1 => exact SqT.of (by assumption)); (case k2 => exact rfl)))
local macro_rules | `(tactic| walk_at "g") => `(tactic| repeat (first | (refine ⟨_, rfl, ?_⟩) | (refine ⟨_, _, rfl, rfl, ?_⟩) | (refine ⟨_, _, rfl, ?_⟩) | (refine ⟨rfl, ?_⟩) | walk_at "x"))


/-! ### bare_number -/
def oV : Option Int → V
  | none => .non
  | some i => .int i
def obd (n : Nat) : Option Int → Prop
  | none => True
  | some i => i < ((2 ^ n : Nat) : Int)
/-- classes as the program keeps them -/
def WfC (cs : List Cl) : Prop := ∀ c ∈ cs, 0 < c.2 ∧ Bd 8000 c.2 ∧ 0 ≤ c.1 ∧ Bd 8000 c.1
theorem Refd.cov {r m : Int} {cs es : List Cl} (h : Refd r m cs es) (x : Int) : cov es x ↔ Tr.cov cs (r + m * x) := by
  obtain ⟨ds, h1, h2⟩ := h.ex
  exact (h2.cov x).trans (h1.cov x)
theorem Refd.wf {r m : Int} {cs es : List Cl} (h : Refd r m cs es) (hc : ∀ c ∈ cs, 0 < c.2 ∧ Bd 8000 c.2) : WfC es := by
  obtain ⟨ds, h1, h2⟩ := h.ex
  intro e he
  have p := h2.pos (fun d hd => (h1.pos d hd).1) e he
  obtain ⟨d, hd, e1, e2⟩ := h2.from_ e he
  have b : Bd 8000 e.2 := by
    rw [e1]
    exact h1.bdB hc d hd
  exact ⟨p.1, b, p.2.1, b.le (by omega)⟩
theorem Refd.len {r m : Int} {cs es : List Cl} (h : Refd r m cs es) : es.length ≤ cs.length := by
  obtain ⟨ds, h1, h2⟩ := h.ex
  exact Nat.le_trans h2.len h1.len
theorem Refd.less {r m : Int} {cs es : List Cl} (hm : 0 < m) (h : Refd r m cs es) (hc : ∃ c ∈ cs, c.2 = m) : (∃ d ∈ es, d.2 = 1) ∨ es.length < cs.length := by
  obtain ⟨ds, h1, h2⟩ := h.ex
  rcases h1.less hm hc with h3 | h3
  · exact .inl (h2.one (fun d hd => (h1.pos d hd).1) h3)
  · exact .inr (Nat.lt_of_le_of_lt h2.len h3)
/-- deep enough -/
def Deep (d : Nat) (cs : List Cl) : Prop := cs.length < d ∨ (1 ≤ d ∧ ∃ c ∈ cs, c.2 = 1)
def spBare (d : Nat) : Sp := fun vs H Q _ => ∃ (p : Addr) (cs : List Cl), vs = [.ref p] ∧ PL H p cs ∧ WfC cs ∧ cs.length < 64 ∧ Deep d cs ∧
  ∀ (o : Option Int) (H' : Hp), Same H H' → Bare cs o → obd (6 * d) o → Q (oV o) H'
theorem oV_none (o : Option Int) : decide (oV o = .non) = o.isNone := by
  cases o <;> rfl
section
variable {P : Program} {w : World} {K : PySem.W.Frag} {mg : Str → Option Value} {base : Heap}
theorem c_bare_number (T : Txt K mg) : ∀ d : Nat, Cal P w K mg base (4 + d) "bare_number" (spBare d) []
  | 0 => by
    refine calN T.d_bare_number sc_bare_number (fun vs H Q E h => ?_) (fun _ _ _ _ _ _ us hl => match us, hl with | [_], _ => rfl) (fun f cdv A outer s H vs Q E hr h => ?_)
    · obtain ⟨p, cs, rfl, _⟩ := h
      rfl
    · obtain ⟨p, cs, rfl, _, _, _, hd, _⟩ := h
      rcases hd with h | h
      · omega
      · omega
  | d + 1 => by
    have c_bare_number := c_bare_number T d
    have c_refined := @c_refined P w K mg base T
    have c_is_covered := @c_is_covered P w K mg base T
    refine calN T.d_bare_number sc_bare_number (fun vs H Q E h => ?_) (fun _ _ _ _ _ _ us hl => match us, hl with | [_], _ => rfl) (fun f cdv A outer s H vs Q E hr h => ?_)
    · obtain ⟨p, cs, rfl, _⟩ := h
      rfl
    · obtain ⟨p, cs, rfl, ⟨ts, hp, pp⟩, wf, h64, deep, k⟩ := h
      have hlen := pp.len
      have hr : Room (4 + d) _ := hr
      refine ⟨_, (pss_cons (ps_if (pt_not (pt_truth (pv 0) (by intro _; rfl))) (pss_one (ps_ret pe_int)) pss_nil)
      (pss_cons (ps_set (i := 1) sc_bare_number.nd rfl (Or.inl rfl) (pe_callB (cr_min rfl) (by rfl) T.b_min (by decide +kernel) (pa_cons (pe_lc (own := [("r", 4), ("m", 5)]) (g := gTup K 2 (gCons (gName 4) (gCons (gName 5) gNil))) rfl sc_bare_number.nd (pi_listK K (pv 0)) (blkOk_by (own := [("r", 4), ("m", 5)]) (N := ["classes", "least", "u", "found", "r", "m", "n"]) (sc := defScope s_bare_number) (by decide +kernel)) (fun _ _ _ _ _ => (pg_tup rfl (pgs_cons (pg_name (i := 4) sc_bare_number.nd rfl (Or.inl rfl)) (pgs_cons (pg_name (i := 5) sc_bare_number.nd rfl (Or.inl rfl)) pgs_nil)))) (fun _ _ _ _ _ => pts_nil) (fun _ _ _ _ _ => (pe_callTy call_int1 (by rfl) T.b_int (by decide +kernel) (pa_cons (pv 5) pa_nil)))) pa_nil)))
      (pss_cons (ps_if (pt_cmpR op_eq (pv 1) pe_int (nomark _)) (pss_one (ps_ret pe_non)) pss_nil)
      (pss_cons (ps_if (pt_cmpR op_gt (pv 1) (pe_callB call_len (by rfl) T.b_len (by decide +kernel) (pa_cons (pv 0) pa_nil)) (nomark _)) (pss_one (ps_ret (pe_ix ix_list (pe_lc (own := [("n", 6)]) (g := gName 6) rfl sc_bare_number.nd (pi_range1 (by rfl) T.b_range (pa_cons (pe_op op_add (pe_callB call_len (by rfl) T.b_len (by decide +kernel) (pa_cons (pv 0) pa_nil)) pe_int) pa_nil)) (blkOk_by (own := [("n", 6)]) (N := ["classes", "least", "u", "found", "r", "m", "n"]) (sc := defScope s_bare_number) (by decide +kernel)) (fun _ _ _ _ _ => (pg_name (i := 6) sc_bare_number.nd rfl (Or.inl rfl))) (fun _ _ _ _ _ => (pts_one (pt_not (pt_val (pe_cx c_is_covered hr (by first | decide | omega) rfl passL (pa_cons (pv 6) (pa_cons (pv 0) pa_nil))))))) (fun _ _ _ _ _ => (pv 6))) pe_int (fun _ _ => rfl)))) pss_nil)
      (pss_cons (ps_for PassesOwn.never rfl (pi_range1 (by rfl) T.b_range (pa_cons (pv 1) pa_nil)) (pg_name (i := 2) sc_bare_number.nd rfl (Or.inl rfl)) (pss_cons (ps_set (i := 3) sc_bare_number.nd rfl (Or.inl rfl) (pe_cx c_bare_number hr (by first | decide | omega) rfl passL (pa_cons (pe_cx c_refined hr (by first | decide | omega) rfl passL (pa_cons (pv 0) (pa_cons (pv 2) (pa_cons (pv 1) pa_nil)))) pa_nil)))
      (pss_one (ps_if (pt_cmpR op_notN (pv 3) pe_non (nomark _)) (pss_one (ps_ret (pe_op op_add (pv 2) (pe_op op_mul (pv 1) (pv 3))))) pss_nil))))
      (pss_one (ps_ret pe_non))))))), ?_⟩
      walk_at "g"
      refine ⟨_, .inl ⟨_, SqL.of hp, rfl⟩, ?_⟩
      have pow0 : (0 : Int) < ((2 ^ (6 * (d + 1)) : Nat) : Int) := by
        have := Nat.two_pow_pos (6 * (d + 1))
        omega
      cases hne : (ts.map V.ref).isEmpty with
      | true =>
        have e0 : cs = [] := by
          have : ts = [] := by simpa using hne
          rw [this] at hlen
          exact List.eq_nil_of_length_eq_zero hlen.symm
        subst e0
        refine iteT ?_
        walk_at "g"
        exact k (some 0) H (Same.refl _) ⟨Int.le_refl _, cov_nil _⟩ pow0
      | false =>
        have ne : cs ≠ [] := by
          rintro rfl
          have : ts = [] := List.eq_nil_of_length_eq_zero hlen
          rw [this] at hne
          cases hne
        refine iteF ?_
        walk_at "g"
        refine ⟨⟨_, SqL.of hp⟩, fun D nD => ?_⟩
        refine lc_pairs (fun _ => true) (fun y c _ => y = .int c.2) (fun _ _ _ _ _ _ _ e => e) nD (SqL.of hp) pp (by omega) (fun _ _ => rfl) (fun c _ H Q _ q => q H (Same.refl H)) ?_ ?_
        · intro c hcm _ H2 Q2 s2 q
          walk_at "g"
          exact .inl ⟨_, rfl, q _ _ (Same.refl _) rfl⟩
        · intro ys H2 s2 hD2 py
          rw [filter_all] at py
          have ey := py.eq_map
          walk_at "g"
          refine ⟨D, cs.map (·.2), rfl, SqL.of (by rw [hD2, ey, List.map_map]; rfl), by rw [List.length_map]; exact List.length_pos_iff.mpr ne, fun least hin hle => ?_⟩
          obtain ⟨c0, hc0, e0⟩ := List.mem_map.mp hin
          have lp : 0 < least := by rw [← e0]; exact (wf c0 hc0).1
          have lle : ∀ c ∈ cs, least ≤ c.2 := fun c hcm => hle _ (List.mem_map_of_mem hcm)
          walk_at "g"
          refine iteB (fun c1 => ?_) (fun c1 => ?_)
          · -- a modulus 1
            have l1 := of_dI c1
            walk_at "g"
            refine k none H2 s2 (fun n => ⟨c0, hc0, ?_⟩) trivial
            rw [e0, l1]
            exact Int.one_dvd _
          · have l1 := of_dI' c1
            walk_at "g"
            refine ⟨_, _, rfl, .inl ⟨_, SqL.of (s2 _ _ hp), rfl⟩, ?_⟩
            walk_at "g"
            rw [List.length_map, hlen]
            refine iteB (fun c2 => ?_) (fun c2 => ?_)
            · -- all moduli above the number of classes
              have l2 : (cs.length : Int) < least := of_decide_eq_true c2
              walk_at "g"
              refine ⟨_, _, rfl, .inl ⟨_, SqL.of (s2 _ _ hp), rfl⟩, ?_⟩
              walk_at "g"
              rw [List.length_map, hlen]
              refine ⟨by omega, by omega, fun D3 nD3 => ?_⟩
              obtain ⟨n0, n1, n2, n3⟩ := pigeon cs fun c hcm => Int.lt_of_lt_of_le l2 (lle c hcm)
              refine lc_rng (fun i : Nat => !covB cs (0 + (i : Int))) (fun y i _ => y = .int (0 + (i : Int))) (fun _ _ _ _ _ _ _ e => e) nD3 (by omega) (fun _ => rfl) ?_ ?_ ?_
              · intro i hi H4 Q4 s4 q
                walk_at "g"
                refine ⟨_, _, cs, rfl, ⟨ts, s4 _ _ (s2 _ _ hp), (pp.same s2).same s4⟩, fun c hcm => (wf c hcm).1, by omega, fun H5 s5 => ?_⟩
                walk_at "g"
                exact q H5 s5
              · intro i hi _ H4 Q4 s4 q
                walk_at "g"
                exact q _ _ (Same.refl _) rfl
              · intro zs H4 s4 hD4 pz
                have ez := pz.eq_map
                have hin : n0.toNat ∈ (List.range ((cs.length : Int) + 1).toNat).filter (fun i : Nat => !covB cs (0 + (i : Int))) := by
                  refine List.mem_filter.mpr ⟨List.mem_range.mpr (by omega), ?_⟩
                  have e : (0 + ((n0.toNat : Nat) : Int)) = n0 := by omega
                  rw [e, covB_no n3]
                  rfl
                cases hf : (List.range ((cs.length : Int) + 1).toNat).filter (fun i : Nat => !covB cs (0 + (i : Int))) with
                | nil =>
                  rw [hf] at hin
                  cases hin
                | cons i0 r =>
                  have hi0 : i0 ∈ (List.range ((cs.length : Int) + 1).toNat).filter (fun i : Nat => !covB cs (0 + (i : Int))) := by
                    rw [hf]
                    exact List.mem_cons_self
                  obtain ⟨hr1, hr2⟩ := List.mem_filter.mp hi0
                  have hr3 := List.mem_range.mp hr1
                  rw [hf] at ez
                  rw [ez] at hD4
                  walk_at "g"
                  refine ⟨D3, _, _, .int (0 + (i0 : Int)), rfl, rfl, SqL.of hD4, atI_nat (j := 0) rfl, ?_⟩
                  refine k (some (0 + (i0 : Int))) H4 (s2.trans s4) ⟨by omega, fun hcov => ?_⟩ ?_
                  · rw [(covB_iff _ _).mpr hcov] at hr2
                    cases hr2
                  · show (0 + (i0 : Int)) < _
                    have h1 : (64 : Nat) ≤ 2 ^ (6 * (d + 1)) := Nat.pow_le_pow_right (n := 2) (i := 6) (by decide) (by omega)
                    generalize 2 ^ (6 * (d + 1)) = z at h1 ⊢
                    omega
            · have l2 : ¬ (cs.length : Int) < least := of_decide_eq_false c2
              walk_at "g"
              refine ⟨by omega, by omega, ?_⟩
              have lb : Bd 8000 least := by rw [← e0]; exact (wf c0 hc0).2.1
              have two : 2 ≤ cs.length := by omega
              have deep' : cs.length < d + 1 := by
                rcases deep with h | ⟨_, c1', hc1, ec1⟩
                · exact h
                · have := lle c1' hc1
                  omega
              refine for_range (lo := 0) (n := least.toNat) (fun i σ H' => ∃ a1 a2 : Option V, σ = [some (.ref p), some (.int least), a1, a2, none, none, none] ∧ Same H H' ∧ ∀ u : Nat, u < i → ∀ t : Int, cov cs (u + least * t)) ?_ ?_ ?_
              · exact ⟨_, _, rfl, s2, fun u hu => by omega⟩
              · rintro i σ H' hi ⟨a1, a2, rfl, s5, hcv⟩
                walk_at "g"
                refine ⟨p, cs, 0 + (i : Int), least, rfl, ⟨ts, s5 _ _ hp, pp.same s5⟩, lp, lb, ?_, fun c hcm => ⟨(wf c hcm).1, (wf c hcm).2.1, (wf c hcm).2.2.2⟩, h64, fun p' es H6 s6 np' he rd => ?_⟩
                · exact lb.le (by omega)
                walk_at "g"
                refine ⟨p', es, rfl, he, rd.wf fun c hcm => ⟨(wf c hcm).1, (wf c hcm).2.1⟩, Nat.lt_of_le_of_lt rd.len h64, ?_, fun o H7 s7 hb ho => ?_⟩
                · rcases rd.less lp ⟨c0, hc0, e0⟩ with h | h
                  · exact .inr ⟨by omega, h⟩
                  · exact .inl (by omega)
                walk_at "g"
                rw [oV_none]
                cases o with
                | some b =>
                  refine iteT ?_
                  walk_at "g"
                  obtain ⟨b0, b1⟩ := hb
                  have hz : b < ((2 ^ (6 * d) : Nat) : Int) := ho
                  refine ⟨.inl ⟨by omega, by omega⟩, ?_⟩
                  walk_at "g"
                  refine k (some (0 + (i : Int) + least * b)) H7 ((s5.trans s6).trans s7) ⟨?_, fun hcov => b1 ((rd.cov b).mpr hcov)⟩ ?_
                  · have := Int.mul_nonneg (Int.le_of_lt lp) b0
                    omega
                  · show 0 + (i : Int) + least * b < ((2 ^ (6 * (d + 1)) : Nat) : Int)
                    have e : 2 ^ (6 * (d + 1)) = 2 ^ (6 * d) * 64 := by rw [Nat.mul_add, Nat.pow_add]
                    rw [e]
                    generalize 2 ^ (6 * d) = z at hz ⊢
                    have h1 : least * (b + 1) ≤ 64 * (b + 1) := Int.mul_le_mul_of_nonneg_right (by omega) (by omega)
                    rw [Int.mul_add, Int.mul_one] at h1
                    omega
                | none =>
                  refine iteF ?_
                  refine ⟨_, _, rfl, (s5.trans s6).trans s7, fun u hu t => ?_⟩
                  rcases Nat.lt_succ_iff_lt_or_eq.mp hu with h | h
                  · exact hcv u h t
                  · subst h
                    have := (rd.cov t).mp (hb t)
                    have e : (0 + (u : Int)) + least * t = u + least * t := by omega
                    rw [e] at this
                    exact this
              · rintro σ H' ⟨a1, a2, rfl, s5, hcv⟩
                walk_at "g"
                refine k none H' s5 (fun n => ?_) trivial
                have h1 := Int.emod_nonneg n (show least ≠ 0 by omega)
                have h2 := Int.emod_lt_of_pos n lp
                have h3 := Int.emod_add_mul_ediv n least
                have := hcv (n % least).toNat (by omega) (n / least)
                have e : (((n % least).toNat : Nat) : Int) + least * (n / least) = n := by omega
                rw [e] at this
                exact this
end
end Tr

namespace Tr
open PySem L2
/-- steps of a reading that are plain -/
local macro_rules | `(tactic| walk_at "x") => `(tactic| (refine' ⟨_, _, _, _, rfl, rfl, ?k1, ?k2, ?_⟩; (case k1 => exact SqT.of (by assumption)); (case k2 => exact rfl)))
local macro_rules | `(tactic| walk_at "g") => `(tactic| repeat (first | (refine ⟨_, rfl, ?_⟩) | (refine ⟨_, _, rfl, rfl, ?_⟩) | (refine ⟨_, _, rfl, ?_⟩) | (refine ⟨rfl, ?_⟩) | walk_at "x"))


/-! ### is_whole, is_part, Numbers.__init__ -/
section
variable {P : Program} {w : World} {K : PySem.W.Frag} {mg : Str → Option Value} {base : Heap}
def spWhole (K : PySem.W.Frag) : Sp := fun vs H Q _ => ∃ x b, vs = [x] ∧ IsW K H x b ∧ Q (.bl b) H
theorem c_is_whole (T : Txt K mg) : Cal P w K mg base 1 "is_whole" (spWhole K) [] := by
  refine calN T.d_is_whole sc_is_whole (fun vs H Q E h => ?_) (fun _ _ _ _ _ _ us hl => match us, hl with | [_], _ => rfl) (fun f cdv A outer s H vs Q E hr h => ?_)
  · obtain ⟨x, b, rfl, _⟩ := h
    rfl
  · obtain ⟨x, b, rfl, ⟨t, b1, b2, ty, k1, k2, rfl⟩, k⟩ := h
    refine ⟨_, (pss_one (ps_ret (pe_and (pe_callB call_isi (by rfl) T.b_isinstance (by decide +kernel) (pa_cons (pv 0) (pa_cons (pe_bltn (v := .ty "int") rfl T.b_int (by decide +kernel) rfl) pa_nil))) (pe_one (pe_not (pe_callB call_isi (by rfl) T.b_isinstance (by decide +kernel) (pa_cons (pv 0) (pa_cons (pe_bltn (v := .ty "bool") rfl T.b_bool (by decide +kernel) rfl) pa_nil)))))))), ?_⟩
    refine ⟨x, rfl, x, .ty "int", t, _, b1, rfl, .ty "int", ty, k1, b1, rfl, ?_⟩
    cases b1 with
    | false => exact k
    | true =>
      refine ⟨x, rfl, x, .ty "bool", t, _, b2, rfl, .ty "bool", ty, k2, b2, rfl, ?_⟩
      rw [Bool.true_and] at k
      exact k
end
end Tr

/-! # k01: parts of any kind. -/
namespace Tr
open PySem L2
/-- steps of a reading that are plain -/
local macro_rules | `(tactic| walk_at "x") => `(tactic| (refine' ⟨_, _, _, _, rfl, rfl, ?k1, ?k2, ?_⟩; (case k1 => exact SqT.of (by assumption)); (case k2 => exact rfl)))
local macro_rules | `(tactic| walk_at "g") => `(tactic| repeat (first | (refine ⟨_, rfl, ?_⟩) | (refine ⟨_, _, rfl, rfl, ?_⟩) | (refine ⟨_, _, rfl, ?_⟩) | (refine ⟨rfl, ?_⟩) | walk_at "x"))


theorem tyS {K : PySem.W.Frag} {H H' : Hp} {n : V} {t : Value} (s : Same H H') (h : TyX K H n t) : TyX K H' n t := by
  cases h with
  | base h =>
    cases h with
    | non => exact .base .non
    | bl x => exact .base (.bl x)
    | int i => exact .base (.int i)
    | str x => exact .base (.str x)
    | flt x => exact .base (.flt x)
    | lst e => exact .base (.lst (s _ _ e))
    | frz e => exact .base (.frz (s _ _ e))
    | tup e => exact .base (.tup (s _ _ e))
    | dK e => exact .base (.dK (s _ _ e))
    | dT e => exact .base (.dT (s _ _ e))
    | ins e cl ha hn htk hm => exact .base (.ins (s _ _ e) cl ha hn htk hm)
  | byt b => exact .byt b
  | set e => exact .set (s _ _ e)
  | kList e c => exact .kList e c
  | kTuple e c => exact .kTuple e c
  | kDict e c => exact .kDict e c
  | fTuple e => exact .fTuple (s _ _ e)
  | fDict e => exact .fDict (s _ _ e)
/-- a list or a tuple that stands in the heap -/
def Sqh (H : Hp) (u : Addr) (xs : List V) : Prop := H u = some (.lst xs) ∨ H u = some (.tup xs)
/-- a value that is no pair at all: no list and no tuple -/
def NoSq (K : PySem.W.Frag) (H : Hp) (v : V) : Prop := ∃ t, TyX K H v t ∧ PySem.W.kitAny K t [.type "list", .type "tuple"] = some false
/-- a value that is wrong as a part -/
inductive WrV (K : PySem.W.Frag) (H : Hp) : V → Prop
  | no {v : V} (h : NoSq K H v) : WrV K H v
  | len {u : Addr} {xs : List V} (h : Sqh H u xs) (hl : xs.length ≠ 2) : WrV K H (.ref u)
  | two {u : Addr} {a b : V} {x y : Bool} (h : Sqh H u [a, b]) (ha : IsW K H a x) (hb : IsW K H b y) (n : x = true → y = true → ∃ i, b = .int i ∧ i < 0) : WrV K H (.ref u)
/-- what is handed in as a part: a pair, or a wrong value -/
def ItP (K : PySem.W.Frag) (H : Hp) (v : V) : Option Cl → Prop
  | some c => ∃ u, v = .ref u ∧ Sqh H u [.int c.1, .int c.2] ∧ 0 ≤ c.2
  | none => WrV K H v
section
variable {K : PySem.W.Frag} {H H' : Hp} {u : Addr} {xs : List V} {v : V} {b : Bool}
theorem Sqh.same (s : Same H H') (h : Sqh H u xs) : Sqh H' u xs := h.imp (fun h => s _ _ h) fun h => s _ _ h
theorem Sqh.sq (h : Sqh H u xs) : SqL K H u xs ∨ SqT K H u xs := h.imp (fun h => SqL.of h) fun h => SqT.of h
theorem isW_same (s : Same H H') (h : IsW K H v b) : IsW K H' v b := let ⟨t, b1, b2, ty, r⟩ := h.ex; ⟨t, b1, b2, tyS s ty, r⟩
theorem WrV.same (s : Same H H') (h : WrV K H v) : WrV K H' v := by
  cases h with
  | no h => obtain ⟨t, ty, k⟩ := h; exact .no ⟨t, tyS s ty, k⟩
  | len h hl => exact .len (h.same s) hl
  | two h ha hb n => exact .two (h.same s) (isW_same s ha) (isW_same s hb) n
theorem ItP.same {o : Option Cl} (s : Same H H') (h : ItP K H v o) : ItP K H' v o := by
  cases o with
  | some c => obtain ⟨u, e, q, n⟩ := h; exact ⟨u, e, q.same s, n⟩
  | none => exact WrV.same s h
theorem seq_kit (h : Sqh H u xs) : ∃ t, TyX K H (.ref u) t ∧ PySem.W.kitAny K t [.type "list", .type "tuple"] = some true := by
  rcases h with h | h
  · exact ⟨_, .base (.lst h), kitAny_cons (b := true) (kit_ty (by decide +kernel)) (fun z => by cases z) (fun _ => rfl)⟩
  · exact ⟨_, .base (.tup h), kitAny_cons (b := false) (kit_ty (by decide +kernel)) (fun _ => kitAny_cons (b := true) (kit_ty (by decide +kernel)) (fun z => by cases z) (fun _ => rfl)) (fun z => by cases z)⟩
theorem noSq_ty {t : String} (ty : TyX K H v (.type t)) (h1 : PySem.W.kitOne K (.type t) (.type "list") = some false) (h2 : PySem.W.kitOne K (.type t) (.type "tuple") = some false) : NoSq K H v :=
  ⟨_, ty, kitAny_cons (b := false) h1 (fun _ => kitAny_cons (b := false) h2 (fun _ => rfl) (fun z => by cases z)) (fun z => by cases z)⟩
theorem lenV_sq (h : Sqh H u xs) : LenV K (.ref u) H xs.length := h.elim (fun h => .inl ⟨_, SqL.of h, rfl⟩) fun h => .inr ⟨_, SqT.of h, rfl⟩
end
section
variable {P : Program} {w : World} {K : PySem.W.Frag} {mg : Str → Option Value} {base : Heap}
def spPartA (K : PySem.W.Frag) : Sp := fun vs H Q _ => ∃ (v : V) (o : Option Cl), vs = [v] ∧ ItP K H v o ∧ ∀ H', Same H H' → Q (.bl o.isSome) H'
theorem c_is_part (T : Txt K mg) : Cal P w K mg base 2 "is_part" (spPartA K) [] := by
  have c_is_whole := @c_is_whole P w K mg base T
  refine calN T.d_is_part sc_is_part (fun vs H Q E h => ?_) (fun _ _ _ _ _ _ us hl => match us, hl with | [_], _ => rfl) (fun f cdv A outer s H vs Q E hr h => ?_)
  · obtain ⟨v, o, rfl, _⟩ := h
    rfl
  · obtain ⟨v, o, rfl, hI, k⟩ := h
    refine ⟨_, (pss_cons (ps_if (PW.pt (pw_or (pt_not (pt_val (pe_callB call_isiT (by rfl) T.b_isinstance (by decide +kernel) (pa_cons (pv 0) (pa_cons (pe_tup (pa_cons (pe_bltn (v := .ty "list") rfl T.b_list (by decide +kernel) rfl) (pa_cons (pe_bltn (v := .ty "tuple") rfl T.b_tuple (by decide +kernel) rfl) pa_nil))) pa_nil))))) (pw_or1 (pt_cmpR op_ne (pe_callB call_len (by rfl) T.b_len (by decide +kernel) (pa_cons (pv 0) pa_nil)) pe_int (nomark _))))) (pss_one (ps_ret pe_bl)) pss_nil)
      (pss_one (ps_ret (pe_and (pe_cx c_is_whole hr (by first | decide | omega) rfl passL (pa_cons (pe_ix (ix_sq K) (pv 0) pe_int (fun _ _ => rfl)) pa_nil)) (pe_and (pe_cx c_is_whole hr (by first | decide | omega) rfl passL (pa_cons (pe_ix (ix_sq K) (pv 0) pe_int (fun _ _ => rfl)) pa_nil)) (pe_one (pe_cmpR op_ge (pe_ix (ix_sq K) (pv 0) pe_int (fun _ _ => rfl)) pe_int (nomark _)))))))), ?_⟩
    refine ⟨v, rfl, by show 2 ≤ sizeLine; decide, fun tp ntp => ?_⟩
    have s1 : Same H (upd H tp (.tup [.ty "list", .ty "tuple"])) := same_upd ntp
    have htp : upd H tp (.tup [.ty "list", .ty "tuple"]) tp = some (.tup [.ty "list", .ty "tuple"]) := upd_same
    have hI1 := hI.same s1
    have k1 : ∀ H', Same (upd H tp (.tup [.ty "list", .ty "tuple"])) H' → Q (.bl o.isSome) H' := fun H' s => k H' (s1.trans s)
    generalize upd H tp (.tup [.ty "list", .ty "tuple"]) = H1 at *
    clear hI k s1 ntp
    have kk := k1 H1 (Same.refl _)
    clear k1
    cases o with
    | some c =>
      obtain ⟨u, rfl, hu, h0⟩ := hI1
      obtain ⟨t, ty, ka⟩ := seq_kit (K := K) hu
      refine ⟨.ref u, tp, [.ty "list", .ty "tuple"], t, _, true, rfl, htp, .cons (.ty _) (.cons (.ty _) .nil), ty, ka, true, rfl, ?_⟩
      walk_at "g"
      refine ⟨_, _, rfl, lenV_sq hu, ?_⟩
      walk_at "g"
      refine ⟨u, _, 0, _, rfl, rfl, hu.sq, atI_nat (j := 0) rfl, ?_⟩
      refine ⟨_, _, rfl, isW_int _, true, rfl, ?_⟩
      walk_at "g"
      refine ⟨u, _, 1, _, rfl, rfl, hu.sq, atI_nat (j := 1) rfl, ?_⟩
      refine ⟨_, _, rfl, isW_int _, true, rfl, ?_⟩
      walk_at "g"
      refine ⟨u, _, 1, _, rfl, rfl, hu.sq, atI_nat (j := 1) rfl, ?_⟩
      walk_at "g"
      show Q (.bl (decide ((0 : Int) ≤ c.2))) H1
      rw [decide_eq_true h0]
      exact kk
    | none =>
      cases hI1 with
      | no h =>
        obtain ⟨t, ty, ka⟩ := h
        refine ⟨v, tp, [.ty "list", .ty "tuple"], t, _, false, rfl, htp, .cons (.ty _) (.cons (.ty _) .nil), ty, ka, false, rfl, ?_⟩
        walk_at "g"
        exact kk
      | @len u xs hu hl =>
        obtain ⟨t, ty, ka⟩ := seq_kit (K := K) hu
        refine ⟨.ref u, tp, [.ty "list", .ty "tuple"], t, _, true, rfl, htp, .cons (.ty _) (.cons (.ty _) .nil), ty, ka, true, rfl, ?_⟩
        walk_at "g"
        refine ⟨_, _, rfl, lenV_sq hu, ?_⟩
        walk_at "g"
        rw [show (!decide (V.int (xs.length : Nat) = V.int 2)) = true from by rw [decide_eq_false (fun e => hl (by have := V.int.inj e; omega))]; rfl]
        walk_at "g"
        exact kk
      | @two u a b x y hu ha hb n =>
        obtain ⟨t, ty, ka⟩ := seq_kit (K := K) hu
        refine ⟨.ref u, tp, [.ty "list", .ty "tuple"], t, _, true, rfl, htp, .cons (.ty _) (.cons (.ty _) .nil), ty, ka, true, rfl, ?_⟩
        walk_at "g"
        refine ⟨_, _, rfl, lenV_sq hu, ?_⟩
        walk_at "g"
        refine ⟨u, _, 0, _, rfl, rfl, hu.sq, atI_nat (j := 0) rfl, ?_⟩
        refine ⟨_, _, rfl, ha, x, rfl, ?_⟩
        cases x with
        | false =>
          walk_at "g"
          exact kk
        | true =>
        walk_at "g"
        refine ⟨u, _, 1, _, rfl, rfl, hu.sq, atI_nat (j := 1) rfl, ?_⟩
        refine ⟨_, _, rfl, hb, y, rfl, ?_⟩
        cases y with
        | false =>
          walk_at "g"
          exact kk
        | true =>
        obtain ⟨i, rfl, hi⟩ := n rfl rfl
        walk_at "g"
        refine ⟨u, _, 1, _, rfl, rfl, hu.sq, atI_nat (j := 1) rfl, ?_⟩
        walk_at "g"
        show Q (.bl (decide ((0 : Int) ≤ i))) H1
        rw [decide_eq_false (by omega)]
        exact kk
end
end Tr

/-! # k01: Numbers made of anything. -/
namespace Tr
open PySem L2
/-- steps of a reading that are plain -/
local macro_rules | `(tactic| walk_at "x") => `(tactic| (refine' ⟨_, _, _, _, rfl, rfl, ?k1, ?k2, ?_⟩; (case k1 => exact SqT.of (by assumption)); (case k2 => exact rfl)))
local macro_rules | `(tactic| walk_at "g") => `(tactic| repeat (first | (refine ⟨_, rfl, ?_⟩) | (refine ⟨_, _, rfl, rfl, ?_⟩) | (refine ⟨_, _, rfl, ?_⟩) | (refine ⟨rfl, ?_⟩) | walk_at "x"))


/-! ### Numbers.__init__ -/
def flds (q1 q2 : Addr) : List (Str × V) := [("classes", .ref q1), ("singles", .ref q2)]
/-- a Numbers stands at a: its classes and singles -/
structure NumAt (C : Addr) (H : Hp) (a : Addr) (ds : List Cl) (ns : List Int) : Prop where
  ex : ∃ dx q1 q2, H a = some (.ins C dx (flds q1 q2)) ∧ PL H q1 ds ∧ H q2 = some (.lst (ns.map V.int))
theorem NumAt.same {C : Addr} {H H' : Hp} {a : Addr} {ds : List Cl} {ns : List Int} (s : Same H H') (h : NumAt C H a ds ns) : NumAt C H' a ds ns :=
  let ⟨dx, q1, q2, e1, e2, e3⟩ := h.ex
  ⟨dx, q1, q2, s _ _ e1, e2.same s, s _ _ e3⟩
/-- u is none of the lists of the Numbers at a -/
def NuNe (H : Hp) (a u : Addr) : Prop := ∀ C dx q1 q2, H a = some (.ins C dx (flds q1 q2)) → q1 ≠ u ∧ q2 ≠ u
theorem NumAt.kpl {C a u : Addr} {H H' : Hp} {ds : List Cl} {ns : List Int} {xs : List V} (h : NumAt C H a ds ns) (ne : NuNe H a u) (k : Kp u H H') (hu : H u = some (.lst xs)) : NumAt C H' a ds ns := by
  obtain ⟨dx, q1, q2, e1, ⟨ts, e2, pp⟩, e3⟩ := h.ex
  obtain ⟨n1, n2⟩ := ne _ _ _ _ e1
  exact ⟨dx, q1, q2, k _ _ e1 (ne_of e1 hu (by intro z; cases z)), ⟨ts, k _ _ e2 n1, pp.mono fun t c e => k _ _ e (ne_of e hu (by intro z; cases z))⟩, k _ _ e3 n2⟩
theorem NuNe.to {C a u : Addr} {H H' : Hp} {ds : List Cl} {ns : List Int} (h : NumAt C H a ds ns) (h' : NumAt C H' a ds ns) (e : H' a = H a) (n : NuNe H a u) : NuNe H' a u := fun C dx q1 q2 q => n C dx q1 q2 (e ▸ q)
/-- what __init__ makes of the pairs -/
structure Num (cs ds : List Cl) (ns : List Int) : Prop where
  tidy : Tidy (cs.filter fun c => decide (0 < c.2)) ds
  up : ns.Pairwise (· < ·)
  mem : ∀ n, n ∈ ns ↔ (n, 0) ∈ cs ∧ ¬ cov ds n
  len : ns.length ≤ cs.length
theorem PL.kpi {C x dx p : Addr} {H H' : Hp} {fs : List (Str × V)} {cs : List Cl} (kp : Kp x H H') (hx : H x = some (.ins C dx fs)) (h : PL H p cs) : PL H' p cs :=
  let ⟨ts, a, b⟩ := h
  ⟨ts, kp _ _ a (ne_of a hx (by intro z; cases z)), b.mono fun t c e => kp _ _ e (ne_of e hx (by intro z; cases z))⟩
/-- items of a list or tuple, as they are handed in -/
def iSq (K : PySem.W.Frag) (te : TE) : TI := fun σ H R => iList K te σ H R ∨ iTup K te σ H R
theorem pi_sqK {X : Cx} (K : PySem.W.Frag) {tg l : Expr} {tl : TE} (hl : PE X l tl) (hk : X.K = K := by rfl) : PI X tg l (iSq K tl) := by
  subst hk
  exact pi_or (pi_list hl) (pi_tup hl)
theorem iSq_at {K : PySem.W.Frag} {te : TE} {σ : L2.St} {H : Hp} {R : It → Hp → Prop} {a : Addr} {xs : List V} (hte : ∀ Q : V → Hp → Prop, Q (.ref a) H → te σ H Q) (h : SqL K H a xs ∨ SqT K H a xs)
    (hR : ∀ (J : It) (G : Hp → Prop), (∀ H', Same H H' → G H') → Walk J xs.length G (YAt xs) → R J H) : iSq K te σ H R := by
  rcases h with h | h
  · exact .inl (hte _ ⟨a, rfl, ⟨_, h⟩, hR _ _ (fun H' s => s.seq h) walk_list⟩)
  · exact .inr (hte _ ⟨a, rfl, ⟨_, h⟩, hR _ _ (fun H' s => s.seqT h) walk_tup⟩)
/-- the parts handed in: a list, a tuple, or the empty tuple that is kept as the default -/
def PaS (K : PySem.W.Frag) (H : Hp) (p : Addr) (vs : List V) : Prop := SqL K H p vs ∨ SqT K H p vs
theorem PaS.same {K : PySem.W.Frag} {H H' : Hp} {p : Addr} {vs : List V} (s : Same H H') (h : PaS K H p vs) : PaS K H' p vs := h.imp (fun h => s.seq h) fun h => s.seqT h
theorem PaS.kpi {K : PySem.W.Frag} {C x dx p : Addr} {H H' : Hp} {fs : List (Str × V)} {vs : List V} (kp : Kp x H H') (hx : H x = some (.ins C dx fs)) (h : PaS K H p vs) : PaS K H' p vs :=
  h.imp (fun a => a.elim (fun h => .inl (h.elim (fun h => .inl (kp _ _ h (ne_of h hx (by intro z; cases z)))) fun ⟨o, h⟩ => .inr ⟨o, kp _ _ h (ne_of h hx (by intro z; cases z))⟩)) fun h => .inr h)
    fun a => a.elim (fun h => .inl (h.elim (fun h => .inl (kp _ _ h (ne_of h hx (by intro z; cases z)))) fun ⟨o, h⟩ => .inr ⟨o, kp _ _ h (ne_of h hx (by intro z; cases z))⟩)) fun h => .inr h
theorem Sqh.kpi {C x dx u : Addr} {H H' : Hp} {fs : List (Str × V)} {xs : List V} (kp : Kp x H H') (hx : H x = some (.ins C dx fs)) (h : Sqh H u xs) : Sqh H' u xs :=
  h.imp (fun h => kp _ _ h (ne_of h hx (by intro z; cases z))) fun h => kp _ _ h (ne_of h hx (by intro z; cases z))
/-- a pair that is handed in -/
def PrS (H : Hp) (v : V) (c : Cl) : Prop := ∃ u, v = .ref u ∧ Sqh H u [.int c.1, .int c.2]
theorem all_some {K : PySem.W.Frag} {H : Hp} : ∀ {vs : List V} {os : List (Option Cl)}, P2 (ItP K H) vs os → (∀ o ∈ os, o ≠ none) → ∃ cs, os = cs.map some ∧ P2 (PrS H) vs cs ∧ ∀ c ∈ cs, 0 ≤ c.2
  | _, _, .nil, _ => ⟨[], rfl, .nil, fun _ h => nomatch h⟩
  | _, _, .cons (b := o) h t, n => by
    obtain ⟨cs, rfl, pc, h0⟩ := all_some t fun o ho => n o (List.mem_cons_of_mem _ ho)
    cases o with
    | none => exact (n none List.mem_cons_self rfl).elim
    | some c =>
      obtain ⟨u, rfl, hu, h1⟩ := h
      refine ⟨c :: cs, rfl, .cons ⟨u, rfl, hu⟩ pc, fun d hd => ?_⟩
      rcases List.mem_cons.mp hd with rfl | hd
      · exact h1
      · exact h0 d hd
section
variable {P : Program} [PM : PMain P] {w : World} {K : PySem.W.Frag} {mg : Str → Option Value} {base : Heap}
theorem x_BadPart (T : Txt K mg) : Exm P w K mg base 1 "BadPart" (He.ga K "BadPart") (spE (He.ga K "BadPart") ["index"]) := exn1 T.x_BadPart ex_BadPart
/-- BadPart with an index -/
def BadP (K : PySem.W.Frag) (i : Nat) (cls : Value) (d : Option Addr) (H : Hp) : Prop := cls = .ref (He.ga K "BadPart") ∧ ∃ dd, d = some dd ∧ H dd = some (.xd [("index", .int (i : Nat))])
def spNumA (K : PySem.W.Frag) : Sp := fun vs H Q E => ∃ (x dx p : Addr) (us : List V) (os : List (Option Cl)), vs = [.ref x, .ref p] ∧ H x = some (.ins (He.ga K "Numbers") dx []) ∧ PaS K H p us ∧ P2 (ItP K H) us os ∧ (∀ c, some c ∈ os → Bd 8000 c.2) ∧ os.length < 64 ∧
  (∀ (cs ds : List Cl) (ns : List Int) (H' : Hp), os = cs.map some → Kp x H H' → NumAt (He.ga K "Numbers") H' x ds ns → (∀ b o, H b = some o → NuNe H' x b) → Num cs ds ns → Q .non H') ∧
  ∀ (i : Nat) cls d H', Same H H' → os[i]? = some none → (∀ j, j < i → os[j]? ≠ some none) → BadP K i cls d H' → E cls d H'
theorem walk_NumA (T : Txt K mg) (f : Addr) (cdv : Value) (A : Around) (outer : List Env) (s : Shared) (H : Hp) (vs : List V) (Q : VK) (E : XK) (hr : Room 2 (A.deeper (PyProof.Rows.envOfC "Numbers.__init__" (defScope s_Numbers___init__) s.heap.objs.size f cdv))) (h : spNumA K vs H Q E) :
    ∃ t, PSs (cxOf (L2.CX P w) P w K mg base ["self", "parts", "index", "part", "singles", "r", "m", "n"] "Numbers.__init__" (defScope s_Numbers___init__) f cdv A outer s H E) (defBody s_Numbers___init__) t ∧ t { nx := fun _ H' => Q .non H', rt := Q } (start ["self", "parts", "index", "part", "singles", "r", "m", "n"] vs) H := by
  have c_is_part := @c_is_part P w K mg base T
  have c_tidy_classes := @c_tidy_classes P w K mg base T
  have c_is_covered := @c_is_covered P w K mg base T
  have x_BadPart := @x_BadPart P PM w K mg base T
  obtain ⟨x, dx, p, us, os, rfl, hx, hp, pp, hB, h64, k, kE⟩ := h
  refine ⟨_, (pss_cons (ps_for PassesOwn.leaving rfl (pi_enS K (by rfl) T.b_enumerate (pa_cons (pv 1) pa_nil)) (pg_tup rfl (pgs_cons (pg_name (i := 2) sc_Numbers___init__.nd rfl (Or.inl rfl)) (pgs_cons (pg_name (i := 3) sc_Numbers___init__.nd rfl (Or.inl rfl)) pgs_nil))) (pss_one (ps_if (pt_not (pt_val (pe_cx c_is_part hr (by first | decide | omega) rfl (passE rfl rfl rfl rfl) (pa_cons (pv 3) pa_nil)))) (pss_one (ps_raise rfl (takes_of rfl rfl rfl rfl) (pmk_exn x_BadPart hr (by first | decide | omega) rfl (pa_cons (pv 2) pa_nil) (by simp)))) pss_nil)))
      (pss_cons (ps_fld (pv 0) (pe_cx c_tidy_classes hr (by first | decide | omega) rfl (passE rfl rfl rfl rfl) (pa_cons (pe_lc (own := [("r", 5), ("m", 6)]) (g := gSeq K 2 (gCons (gName 5) (gCons (gName 6) gNil))) rfl sc_Numbers___init__.nd (pi_sqK K (pv 1)) (blkOk_by (own := [("r", 5), ("m", 6)]) (N := ["self", "parts", "index", "part", "singles", "r", "m", "n"]) (sc := defScope s_Numbers___init__) (by decide +kernel)) (fun _ _ _ _ _ => (pg_seq rfl (pgs_cons (pg_name (i := 5) sc_Numbers___init__.nd rfl (Or.inl rfl)) (pgs_cons (pg_name (i := 6) sc_Numbers___init__.nd rfl (Or.inl rfl)) pgs_nil)))) (fun _ _ _ _ _ => (pts_one (pt_cmpR op_gt (pv 6) pe_int (nomark _)))) (fun _ _ _ _ _ => (pe_tup (pa_cons (pv 5) (pa_cons (pv 6) pa_nil))))) pa_nil)) rfl)
      (pss_cons (ps_set (i := 4) sc_Numbers___init__.nd rfl (Or.inl rfl) (pe_callB (cr_sortedSet rfl) (by rfl) T.b_sorted (by decide +kernel) (pa_cons (pe_callTy (cr_setI rfl) (by rfl) T.b_set (by decide +kernel) (pa_cons (pe_lc (own := [("r", 5), ("m", 6)]) (g := gSeq K 2 (gCons (gName 5) (gCons (gName 6) gNil))) rfl sc_Numbers___init__.nd (pi_sqK K (pv 1)) (blkOk_by (own := [("r", 5), ("m", 6)]) (N := ["self", "parts", "index", "part", "singles", "r", "m", "n"]) (sc := defScope s_Numbers___init__) (by decide +kernel)) (fun _ _ _ _ _ => (pg_seq rfl (pgs_cons (pg_name (i := 5) sc_Numbers___init__.nd rfl (Or.inl rfl)) (pgs_cons (pg_name (i := 6) sc_Numbers___init__.nd rfl (Or.inl rfl)) pgs_nil)))) (fun _ _ _ _ _ => (pts_one (pt_cmpR op_eq (pv 6) pe_int (nomark _)))) (fun _ _ _ _ _ => (pv 5))) pa_nil)) pa_nil)))
      (pss_one (ps_fld (pv 0) (pe_lc (own := [("n", 7)]) (g := gName 7) rfl sc_Numbers___init__.nd (pi_listK K (pv 4)) (blkOk_by (own := [("n", 7)]) (N := ["self", "parts", "index", "part", "singles", "r", "m", "n"]) (sc := defScope s_Numbers___init__) (by decide +kernel)) (fun _ _ _ _ _ => (pg_name (i := 7) sc_Numbers___init__.nd rfl (Or.inl rfl))) (fun _ _ _ _ _ => (pts_one (pt_not (pt_val (pe_cx c_is_covered hr (by first | decide | omega) rfl passL (pa_cons (pv 7) (pa_cons (pe_fldK K (pv 0) (by rfl)) pa_nil))))))) (fun _ _ _ _ _ => (pv 7))) rfl))))), ?_⟩
  have hlen := pp.len
  generalize hσ : L2.start _ _ = σ0
  obtain rfl : σ0 = [some (.ref x), some (.ref p), none, none, none, none, none, none] := hσ.symm
  clear hσ
  walk_at "g"
  refine iEnS_at (fun Q q => ⟨_, rfl, q⟩) hp fun J G hG wJ => ?_
  refine for_it wJ (fun i σ H' => ∃ a1 a2 : Option V, σ = [some (.ref x), some (.ref p), a1, a2, none, none, none, none] ∧ Same H H' ∧ ∀ j, j < i → os[j]? ≠ some none) ⟨_, _, rfl, Same.refl H, fun j hj => (by omega)⟩ ?_ ?_ ?_
  · rintro i σ H' hi ⟨a1, a2, rfl, s1, _⟩
    exact hG _ s1
  · rintro i y σ H1 H2 hi ⟨a1, a2, rfl, s1, hj⟩ ⟨tt, z, rfl, nt, rfl, hy⟩
    obtain ⟨o, ho, hz⟩ := pp.getl hy
    have s2 : Same H (upd H1 tt (.tup [.int (i : Nat), z])) := s1.upd' nt
    refine ⟨tt, _, rfl, SqT.of upd_same, rfl, _, _, rfl, _, _, rfl, rfl, ?_⟩
    generalize upd H1 tt (.tup [.int (i : Nat), z]) = H2 at *
    clear nt
    walk_at "g"
    refine ⟨z, o, rfl, ItP.same s2 hz, fun H3 s3 => ?_⟩
    have s13 := s2.trans s3
    cases o with
    | none =>
      walk_at "g"
      exact fun d nd => kE i _ _ _ (s13.trans (same_upd nd)) ho hj ⟨rfl, d, rfl, upd_same⟩
    | some c =>
      walk_at "g"
      first | refine ⟨_, _, rfl, s13, fun j hji e => ?_⟩ | refine ⟨s13, fun j hji e => ?_⟩ | refine fun j hji e => ?_
      by_cases q : j < i
      · exact hj j q e
      · obtain rfl : j = i := by omega
        rw [ho] at e
        cases e
  · rintro σ H1 ⟨a1, a2, rfl, s1, hj⟩
    have nn : ∀ o ∈ os, o ≠ none := fun o ho e => by
      obtain ⟨j, hj', ej⟩ := List.mem_iff_getElem.mp ho
      exact hj j (by omega) (by rw [List.getElem?_eq_getElem hj', ej, e])
    obtain ⟨cs, rfl, pc, h0⟩ := all_some pp nn
    rw [List.length_map] at h64
    have hB : ∀ c ∈ cs, Bd 8000 c.2 := fun c hc => hB c (List.mem_map.mpr ⟨c, hc, rfl⟩)
    have k := fun ds ns H' => k cs ds ns H' rfl
    clear kE hj nn pp hG wJ
    have hlen := pc.len
    have hx1 := s1 _ _ hx
    have hp1 := hp.same s1
    have pc1 : P2 (PrS H1) us cs := pc.mono fun v c ⟨u, e, q⟩ => ⟨u, e, q.same s1⟩
    walk_at "g"
    refine iSq_at (fun Q q => ⟨_, rfl, q⟩) hp1 fun J G hG wJ D nD => ?_
    rw [hlen] at wJ
    have nDH : H D = none := by
      cases e : H D with
      | none => rfl
      | some o => rw [s1 _ _ e] at nD; cases nD
    refine lc_gen wJ (fun c => [some (.ref x), some (.ref p), a1, a2, none, some (.int c.1), some (.int c.2), none]) (fun c => decide (0 < c.2)) (fun y c H => ∃ t, y = .ref t ∧ PrT H t c) ?_ nD (by omega) hG ?_ (fun _ _ => rfl) ?_ ?_ ?_
    · rintro y c H H' acc hD kp ⟨t, rfl, ht⟩
      exact ⟨t, rfl, kp _ _ ht (ht.ne hD)⟩
    · rintro i H2 y H2' c hc s2 ⟨rfl, hy⟩
      obtain ⟨v, hv, u, rfl, hu⟩ := pc1.get hc
      rw [hy] at hv
      cases hv
      refine ⟨Same.refl _, fun Q q => ?_⟩
      exact ⟨u, _, rfl, (hu.same s2).symm.imp (fun h => SqT.of h) (fun h => SqL.of h), rfl, _, _, rfl, _, _, rfl, rfl, q⟩
    · intro c hcm H2 Q2 s2 q
      walk_at "g"
      exact q _ (Same.refl _)
    · intro c hcm hpc H2 Q2 s2 q
      walk_at "g"
      refine ⟨by show 2 ≤ sizeLine; decide, fun t nt => ?_⟩
      exact q _ _ (same_upd nt) ⟨t, rfl, upd_same⟩
    · intro ys H2 s2 hD2 py
      obtain ⟨as, rfl⟩ := py.ref (f := V.ref) (fun v b ⟨t, e, _⟩ => ⟨t, e⟩)
      have pD : PL H2 D (cs.filter fun c => decide (0 < c.2)) := ⟨as, hD2, (P2.map_l.mp py).mono fun t c ⟨t', e, r⟩ => by cases e; exact r⟩
      clear hG wJ
      walk_at "g"
      refine ⟨D, _, rfl, pD, fun c hcm => ?_, Nat.lt_of_le_of_lt (List.length_filter_le _ _) h64, fun p' ds H3 s3 np' hpl td => ?_⟩
      · obtain ⟨h1, h2⟩ := List.mem_filter.mp hcm
        exact ⟨of_decide_eq_true h2, hB c h1⟩
      have s03 : Same H H3 := (s1.trans s2).trans s3
      have np'H : H p' = none := by
        cases e : H p' with
        | none => rfl
        | some o => rw [(s1.trans s2) _ _ e] at np'; cases np'
      walk_at "g"
      refine ⟨x, _, dx, _, rfl, s03 _ _ hx, T.k_Numbers, T.a_Numbers__classes, by show 0 < 1000; decide, ?_⟩
      obtain ⟨H4, e4⟩ : ∃ H4, H4 = upd H3 x (.ins (He.ga K "Numbers") dx (putF "classes" (.ref p') [])) := ⟨_, rfl⟩
      have kp4 : Kp x H3 H4 := by rw [e4]; exact kp_upd x H3 _
      have hx4 : H4 x = some (.ins (He.ga K "Numbers") dx [("classes", .ref p')]) := by rw [e4]; exact upd_same
      have kp04 : Kp x H H4 := s03.kp.trans kp4
      have hp4 := hp.kpi kp04 hx
      have pc4 : P2 (PrS H4) us cs := pc.mono fun v c ⟨u, e, q⟩ => ⟨u, e, q.kpi kp04 hx⟩
      have hds4 := PL.kpi kp4 (s03 _ _ hx) hpl
      rw [← e4]
      walk_at "g"
      refine iSq_at (fun Q q => ⟨_, rfl, q⟩) hp4 fun J G hG wJ D5 nD5 => ?_
      rw [hlen] at wJ
      refine lc_gen wJ (fun c => [some (.ref x), some (.ref p), a1, a2, none, some (.int c.1), some (.int c.2), none]) (fun c => decide (c.2 = 0)) (fun y c H => y = .int c.1) (fun _ _ _ _ _ _ _ e => e) nD5 (by omega) hG ?_ (fun _ _ => rfl) ?_ ?_ ?_
      · rintro i H2 y H2' c hc s2 ⟨rfl, hy⟩
        obtain ⟨v, hv, u, rfl, hu⟩ := pc4.get hc
        rw [hy] at hv
        cases hv
        refine ⟨Same.refl _, fun Q q => ?_⟩
        exact ⟨u, _, rfl, (hu.same s2).symm.imp (fun h => SqT.of h) (fun h => SqL.of h), rfl, _, _, rfl, _, _, rfl, rfl, q⟩
      · intro c hcm H5 Q5 s5 q
        walk_at "g"
        have e := q _ (Same.refl _)
        rw [← dI] at e
        exact e
      · intro c hcm hpc H5 Q5 s5 q
        walk_at "g"
        exact q _ _ (Same.refl _) rfl
      · intro ys H5 s5 hD5 py5
        have ey := py5.eq_map
        have ey2 : ys = ((cs.filter fun c => decide (c.2 = 0)).map (·.1)).map V.int := by rw [ey, List.map_map]; rfl
        have hl5 : ((cs.filter fun c => decide (c.2 = 0)).map (·.1)).length ≤ cs.length := by rw [List.length_map]; exact List.length_filter_le _ _
        clear hG wJ
        walk_at "g"
        refine ⟨D5, (cs.filter fun c => decide (c.2 = 0)).map (·.1), rfl, SqL.of (by rw [hD5, ey2]), by omega, fun S c hcl nS => ?_⟩
        walk_at "g"
        refine ⟨S, _, c, rfl, upd_same, by omega, fun ns pL up mem hlen2 nL => ?_⟩
        obtain ⟨H6, e6⟩ : ∃ H6, H6 = upd (upd H5 S (SetO w S (fun j => decide (j ∈ (cs.filter fun c => decide (c.2 = 0)).map (·.1))) c)) pL (.lst (ns.map V.int)) := ⟨_, rfl⟩
        have s56 : Same H5 H6 := by rw [e6]; exact (same_upd nS).upd' nL
        have s46 := s5.trans s56
        have hpL : H6 pL = some (.lst (ns.map V.int)) := by rw [e6]; exact upd_same
        have hx6 := s46 _ _ hx4
        have hds6 := hds4.same s46
        show gName 4 (V.ref pL) _ (upd (upd H5 S (SetO w S (fun j => decide (j ∈ (cs.filter fun c => decide (c.2 = 0)).map (·.1))) c)) pL (.lst (ns.map V.int))) _
        rw [← e6]
        walk_at "g"
        refine ⟨⟨_, SqL.of hpL⟩, fun D7 nD7 => ?_⟩
        have dpos : ∀ d ∈ ds, 0 < d.2 := fun d hd => (td.pos (fun c hcm => of_decide_eq_true (List.mem_filter.mp hcm).2) d hd).1
        have dlen : ds.length ≤ cs.length := Nat.le_trans td.len (List.length_filter_le _ _)
        refine lc_vals (xs := []) (cs := ns) (fun n => !covB ds n) V.int (fun y n _ => y = .int n) (fun _ _ _ _ _ _ _ e => e) nD7 (SqL.of hpL) (by omega) (fun _ => rfl) ?_ ?_ ?_
        · intro n hn H7 Q7 s7 q
          walk_at "g"
          refine ⟨x, _, dx, _, _, rfl, s7 _ _ hx6, T.k_Numbers, T.a_Numbers__classes, rfl, ?_⟩
          refine ⟨n, p', ds, rfl, hds6.same s7, dpos, by omega, fun H8 s8 => ?_⟩
          walk_at "g"
          exact q H8 s8
        · intro n hn _ H7 Q7 s7 q
          walk_at "g"
          exact q _ _ (Same.refl _) rfl
        · intro zs H7 s7 hD7 pz
          have ez := pz.eq_map
          walk_at "g"
          refine ⟨x, _, dx, _, rfl, s7 _ _ hx6, T.k_Numbers, T.a_Numbers__singles, by show 1 < 1000; decide, ?_⟩
          obtain ⟨H8, e8⟩ : ∃ H8, H8 = upd H7 x (.ins (He.ga K "Numbers") dx (flds p' D7)) := ⟨_, rfl⟩
          show Q .non (upd H7 x (.ins (He.ga K "Numbers") dx (flds p' D7)))
          rw [← e8]
          have kp8 : Kp x H7 H8 := by rw [e8]; exact kp_upd x H7 _
          have hx7 := s7 _ _ hx6
          have nDx : D7 ≠ x := ne_of hD7 hx7 (by intro z; cases z)
          have hx8 : H8 x = some (.ins (He.ga K "Numbers") dx (flds p' D7)) := by rw [e8]; exact upd_same
          have nD7H : ∀ b o, H b = some o → D7 ≠ b := fun b o e z => by
            subst z
            by_cases q : D7 = x
            · exact nDx q
            · rw [s46 _ _ (kp04 _ _ e q)] at nD7
              cases nD7
          refine k ds (ns.filter fun n => !covB ds n) H8 (kp04.trans ((s46.trans s7).kp.trans kp8)) ⟨dx, p', D7, hx8, PL.kpi kp8 hx7 (hds6.same s7), ?_⟩ (fun b o e C' dx' q1 q2 e' => ?_) ⟨td, up.filter _, fun n => ?_, ?_⟩
          · rw [← ez]
            exact kp8 _ _ hD7 nDx
          · rw [hx8] at e'
            cases e'
            exact ⟨fun z => (by subst z; rw [np'H] at e; cases e), nD7H b o e⟩
          · rw [List.mem_filter, mem, decide_eq_true_eq, List.mem_map]
            constructor
            · rintro ⟨⟨c', hc', rfl⟩, hcv⟩
              obtain ⟨h1, h2⟩ := List.mem_filter.mp hc'
              have h3 : c'.2 = 0 := of_decide_eq_true h2
              refine ⟨?_, fun h => ?_⟩
              · have : c' = (c'.1, 0) := by rw [← h3]
                rw [← this]
                exact h1
              · rw [(covB_iff _ _).mpr h] at hcv
                cases hcv
            · rintro ⟨h1, h2⟩
              exact ⟨⟨(n, 0), List.mem_filter.mpr ⟨h1, decide_eq_true rfl⟩, rfl⟩, by rw [covB_no h2]; rfl⟩
          · have h1 := List.length_filter_le (fun n => !covB ds n) ns
            omega
theorem m_NumA (T : Txt K mg) : Mak P w K mg base 3 "Numbers" (He.ga K "Numbers") (spNumA K) [] := by
  refine makX T.i_Numbers sc_Numbers___init__ (fun vs H Q E h => ?_) (fun dvs f fd hl F => binds_all F 2 rfl (fun _ _ _ _ _ _ _ us its h1 h2 => match us, its, h1, h2.trans hl with | [_, _], [_], _, _ => ⟨_, rfl, rfl⟩) (by intro e; rw [e] at hl; cases hl)) (fun f cdv A outer s H vs Q E hr h => walk_NumA T f cdv A outer s H vs Q E hr h)
  obtain ⟨x, dx, p, us, os, rfl, _⟩ := h
  rfl
/-- Numbers(): the default is kept at an empty tuple -/
def spNum0A (K : PySem.W.Frag) (d : Addr) : Sp := fun vs H Q E => ∃ (x dx : Addr), vs = [.ref x, .ref d] ∧ H x = some (.ins (He.ga K "Numbers") dx []) ∧
  ∀ (ds : List Cl) (ns : List Int) (H' : Hp), Kp x H H' → NumAt (He.ga K "Numbers") H' x ds ns → (∀ b o, H b = some o → NuNe H' x b) → Num [] ds ns → Q .non H'
theorem m_Num0A (T : Txt K mg) : ∃ d, Mak P w K mg base 3 "Numbers" (He.ga K "Numbers") (spNum0A K d) [.ref d] := by
  obtain ⟨f, fd, d, M, hm, F, he⟩ := T.e_Numbers.ex
  obtain ⟨ds, r, b⟩ := F.binds1 (ps := ["self", "parts"]) 1 0 (List.cons_ne_nil _ _) rfl (fun _ _ _ _ _ _ _ us its h1 h2 => match us, its, h1, h2 with | [_], [_], _, _ => ⟨_, rfl, rfl⟩)
  refine ⟨d, f, fd, ["self", "parts"], ds, M, F.ok sc_Numbers___init__ (fun vs H Q E h => ?_) (fun cdv A outer s H vs Q E hr h => ?_), hm, b, r⟩
  · obtain ⟨x, dx, rfl, _⟩ := h
    rfl
  · obtain ⟨x, dx, rfl, hx, k⟩ := h
    refine walk_NumA T f cdv A outer s H _ Q E hr ⟨x, dx, d, [], [], rfl, hx, .inr (he H), .nil, (fun c hc => by cases hc), by decide, fun cs ds ns H' e => ?_, fun i cls dd H' _ e => by cases e⟩
    cases cs with
    | nil => exact k ds ns H'
    | cons _ _ => cases e
end
end Tr

/-! # k01: every, single, of, class_of. -/
namespace Tr
open PySem L2
/-- steps of a reading that are plain -/
local macro_rules | `(tactic| walk_at "x") => `(tactic| (refine' ⟨_, _, _, _, rfl, rfl, ?k1, ?k2, ?_⟩; (case k1 => exact SqT.of (by assumption)); (case k2 => exact rfl)))
local macro_rules | `(tactic| walk_at "g") => `(tactic| repeat (first | (refine ⟨_, rfl, ?_⟩) | (refine ⟨_, _, rfl, rfl, ?_⟩) | (refine ⟨_, _, rfl, ?_⟩) | (refine ⟨rfl, ?_⟩) | walk_at "x"))


/-- a Numbers made of the pairs cs stands at x -/
structure MkN (K : PySem.W.Frag) (H : Hp) (x : Addr) (cs : List Cl) : Prop where
  ex : ∃ ds ns, NumAt (He.ga K "Numbers") H x ds ns ∧ Num cs ds ns
theorem MkN.same {K : PySem.W.Frag} {H H' : Hp} {x : Addr} {cs : List Cl} (s : Same H H') (h : MkN K H x cs) : MkN K H' x cs := let ⟨ds, ns, a, b⟩ := h.ex; ⟨ds, ns, a.same s, b⟩
theorem some_inj {α : Type} : ∀ {l m : List α}, l.map some = m.map some → l = m
  | [], [], _ => rfl
  | [], _ :: _, e => by cases e
  | _ :: _, [], e => by cases e
  | a :: l, b :: m, e => by
    obtain ⟨h1, h2⟩ := List.cons.inj e
    rw [Option.some.inj h1, some_inj h2]
/-- what is asked of a making of right pairs -/
theorem nA {K : PySem.W.Frag} {H : Hp} {x dx p : Addr} {us : List V} {cs : List Cl} {R : VK} {E : XK} (nx : H x = none) (ndx : H dx = none) (hp : PaS K H p us) (pp : P2 (PrS H) us cs) (h0 : ∀ c ∈ cs, 0 ≤ c.2 ∧ Bd 8000 c.2) (hl : cs.length < 64)
    (k : ∀ H', Same H H' → MkN K H' x cs → (∀ b o, H b = some o → NuNe H' x b) → R .non H') : spNumA K [.ref x, .ref p] (upd (upd H dx (.own x)) x (.ins (He.ga K "Numbers") dx [])) R E := by
  have s := same_made (o := .ins (He.ga K "Numbers") dx []) (o2 := .own x) nx ndx
  refine ⟨x, dx, p, us, cs.map some, rfl, upd_same, hp.same s, ?_, fun c hc => ?_, by rw [List.length_map]; exact hl, fun cs' ds ns H' e kp hN hne nm => ?_, fun i cls d H' _ e => ?_⟩
  · refine P2.mapr (pp.monoM fun v c _ hc ⟨u, e, q⟩ => ?_)
    exact ⟨u, e, q.same s, (h0 c hc).1⟩
  · obtain ⟨c', hc', e⟩ := List.mem_map.mp hc
    cases e
    exact (h0 _ hc').2
  · obtain rfl := some_inj e
    exact k H' (mk_same kp nx ndx) ⟨ds, ns, hN, nm⟩ fun b o hb => hne b o (s _ _ hb)
  · rw [List.getElem?_map] at e
    cases q : cs[i]? with
    | none => rw [q] at e; cases e
    | some c => rw [q] at e; cases e
/-- an integer of `of`, or a wrong value -/
def InV (K : PySem.W.Frag) (H : Hp) (v : V) : Option Int → Prop
  | some n => v = .int n
  | none => IsW K H v false
theorem InV.same {K : PySem.W.Frag} {H H' : Hp} {v : V} {o : Option Int} (s : Same H H') (h : InV K H v o) : InV K H' v o := by
  cases o with
  | some n => exact h
  | none => exact isW_same s h
theorem all_int {K : PySem.W.Frag} {H : Hp} : ∀ {vs : List V} {os : List (Option Int)}, P2 (InV K H) vs os → (∀ o ∈ os, o ≠ none) → ∃ ns : List Int, os = ns.map some ∧ vs = ns.map V.int
  | _, _, .nil, _ => ⟨[], rfl, rfl⟩
  | _, _, .cons (b := o) h t, n => by
    obtain ⟨ns, rfl, rfl⟩ := all_int t fun o ho => n o (List.mem_cons_of_mem _ ho)
    cases o with
    | none => exact (n none List.mem_cons_self rfl).elim
    | some c => exact ⟨c :: ns, rfl, by rw [show _ = V.int c from h]; rfl⟩
section
variable {P : Program} [PM : PMain P] {w : World} {K : PySem.W.Frag} {mg : Str → Option Value} {base : Heap}
def spEvery (K : PySem.W.Frag) : Sp := fun vs H Q _ => vs = [] ∧ ∀ x H', Same H H' → MkN K H' x [(0, 1)] → Q (.ref x) H'
theorem s_every (T : Txt K mg) : Sta P w K mg base 5 (He.ga K "Numbers") "every" (spEvery K) := by
  have m_Numbers := @m_NumA P PM w K mg base T
  refine staX T.s_Numbers__every sc_Numbers_every (fun vs H Q E h => ?_) (fun _ _ _ _ _ _ us hl => match us, hl with | [], _ => rfl) (fun f cdv A outer s H vs Q E hr h => ?_)
  · obtain ⟨rfl, _⟩ := h
    rfl
  · obtain ⟨rfl, k⟩ := h
    refine ⟨_, (pss_one (ps_ret (pe_mkx m_Numbers hr (by first | decide | omega) rfl (passE rfl rfl rfl rfl) (pa_cons (pe_lst (pa_cons (pe_tup (pa_cons pe_int (pa_cons pe_int pa_nil))) pa_nil)) pa_nil)))), ?_⟩
    walk_at "g"
    refine ⟨by show 2 ≤ sizeLine; decide, fun t nt => ?_⟩
    walk_at "g"
    refine ⟨by show 1 ≤ sizeLine; decide, fun l nl => ?_⟩
    walk_at "g"
    intro x dx nx ndx _
    refine nA nx ndx (.inl (SqL.of upd_same)) (cs := [(0, 1)]) (.cons ⟨t, rfl, .inr ((same_upd nl) _ _ upd_same)⟩ .nil) (fun c hc => by rw [List.mem_singleton.mp hc]; exact ⟨by decide, Bd.mono (n := 5) (by show (1 : Int).natAbs < 2 ^ 5; decide) (by decide)⟩) (by decide) fun H' s' h _ => ⟨rfl, ?_⟩
    exact k _ _ (((same_upd nt).trans (same_upd nl)).trans s') h
def spSingle (K : PySem.W.Frag) : Sp := fun vs H Q _ => ∃ n : Int, vs = [.int n] ∧ ∀ x H', Same H H' → MkN K H' x [(n, 0)] → Q (.ref x) H'
theorem s_single (T : Txt K mg) : Sta P w K mg base 5 (He.ga K "Numbers") "single" (spSingle K) := by
  have m_Numbers := @m_NumA P PM w K mg base T
  refine staX T.s_Numbers__single sc_Numbers_single (fun vs H Q E h => ?_) (fun _ _ _ _ _ _ us hl => match us, hl with | [_], _ => rfl) (fun f cdv A outer s H vs Q E hr h => ?_)
  · obtain ⟨n, rfl, _⟩ := h
    rfl
  · obtain ⟨n, rfl, k⟩ := h
    refine ⟨_, (pss_one (ps_ret (pe_mkx m_Numbers hr (by first | decide | omega) rfl (passE rfl rfl rfl rfl) (pa_cons (pe_lst (pa_cons (pe_tup (pa_cons (pv 0) (pa_cons pe_int pa_nil))) pa_nil)) pa_nil)))), ?_⟩
    walk_at "g"
    refine ⟨by show 2 ≤ sizeLine; decide, fun t nt => ?_⟩
    walk_at "g"
    refine ⟨by show 1 ≤ sizeLine; decide, fun l nl => ?_⟩
    walk_at "g"
    intro x dx nx ndx _
    refine nA nx ndx (.inl (SqL.of upd_same)) (cs := [(n, 0)]) (.cons ⟨t, rfl, .inr ((same_upd nl) _ _ upd_same)⟩ .nil) (fun c hc => by rw [List.mem_singleton.mp hc]; exact ⟨Int.le_refl _, Bd.mono (n := 5) (by show (0 : Int).natAbs < 2 ^ 5; decide) (by decide)⟩) (by show 1 < 64; decide) fun H' s' h _ => ⟨rfl, ?_⟩
    exact k _ _ (((same_upd nt).trans (same_upd nl)).trans s') h
def spClassOf (K : PySem.W.Frag) : Sp := fun vs H Q E => ∃ r m : Int, vs = [.int r, .int m] ∧ Bd 8000 m ∧ (m < 1 → ∀ cls d H', Same H H' → BadP K 0 cls d H' → E cls d H') ∧ (1 ≤ m → ∀ x H', Same H H' → MkN K H' x [(r, m)] → Q (.ref x) H')
theorem s_class_of (T : Txt K mg) : Sta P w K mg base 5 (He.ga K "Numbers") "class_of" (spClassOf K) := by
  have m_Numbers := @m_NumA P PM w K mg base T
  have x_BadPart := @x_BadPart P PM w K mg base T
  refine staX T.s_Numbers__class_of sc_Numbers_class_of (fun vs H Q E h => ?_) (fun _ _ _ _ _ _ us hl => match us, hl with | [_, _], _ => rfl) (fun f cdv A outer s H vs Q E hr h => ?_)
  · obtain ⟨r, m, rfl, _⟩ := h
    rfl
  · obtain ⟨r, m, rfl, hB, kE, k⟩ := h
    refine ⟨_, (pss_cons (ps_if (pt_cmpR op_lt (pv 1) pe_int (nomark _)) (pss_one (ps_raise rfl (takes_of rfl rfl rfl rfl) (pmk_exn x_BadPart hr (by first | decide | omega) rfl (pa_cons pe_int pa_nil) (by simp)))) pss_nil)
      (pss_one (ps_ret (pe_mkx m_Numbers hr (by first | decide | omega) rfl (passE rfl rfl rfl rfl) (pa_cons (pe_lst (pa_cons (pe_tup (pa_cons (pv 0) (pa_cons (pv 1) pa_nil))) pa_nil)) pa_nil))))), ?_⟩
    walk_at "g"
    refine iteB (fun c1 => ?_) (fun c1 => ?_)
    · have := of_decide_eq_true c1
      walk_at "g"
      exact fun d nd => kE this _ _ _ (same_upd nd) ⟨rfl, d, rfl, upd_same⟩
    have hm := of_decide_eq_false c1
    walk_at "g"
    refine ⟨by show 2 ≤ sizeLine; decide, fun t nt => ?_⟩
    walk_at "g"
    refine ⟨by show 1 ≤ sizeLine; decide, fun l nl => ?_⟩
    walk_at "g"
    intro x dx nx ndx _
    refine nA nx ndx (.inl (SqL.of upd_same)) (cs := [(r, m)]) (.cons ⟨t, rfl, .inr ((same_upd nl) _ _ upd_same)⟩ .nil) (fun c hc => by rw [List.mem_singleton.mp hc]; exact ⟨show (0 : Int) ≤ m by omega, hB⟩) (by show 1 < 64; decide) fun H' s' h _ => ⟨rfl, ?_⟩
    exact k (by omega) _ _ (((same_upd nt).trans (same_upd nl)).trans s') h
def spOfT (K : PySem.W.Frag) : Sp := fun vs H Q E => ∃ (p : Addr) (us : List V) (os : List (Option Int)), vs = [.ref p] ∧ SqT K H p us ∧ P2 (InV K H) us os ∧ os.length < 64 ∧ (∀ (ns : List Int) x H', os = ns.map some → Same H H' → MkN K H' x (ns.map fun n => (n, 0)) → Q (.ref x) H') ∧
  ∀ (i : Nat) cls d H', Same H H' → os[i]? = some none → (∀ j, j < i → os[j]? ≠ some none) → BadP K i cls d H' → E cls d H'
theorem s_of (T : Txt K mg) : StaR P w K mg base 5 (He.ga K "Numbers") "of" (spStar (spOfT K)) := by
  have m_Numbers := @m_NumA P PM w K mg base T
  have x_BadPart := @x_BadPart P PM w K mg base T
  have c_is_whole := @c_is_whole P w K mg base T
  refine staR T.s_Numbers__of sc_Numbers_of (fun _ _ _ _ _ _ => rfl) (fun _ _ _ _ _ _ _ _ => rfl) (fun f cdv A outer s H vs Q E hr h => ?_)
  obtain ⟨p, us, os, rfl, hp, pp, h64, k, kE⟩ := h
  refine ⟨_, (pss_cons (ps_for PassesOwn.leaving rfl (pi_enumT (by rfl) T.b_enumerate (pa_cons (pv 0) pa_nil)) (pg_tup rfl (pgs_cons (pg_name (i := 1) sc_Numbers_of.nd rfl (Or.inl rfl)) (pgs_cons (pg_name (i := 2) sc_Numbers_of.nd rfl (Or.inl rfl)) pgs_nil))) (pss_one (ps_if (pt_not (pt_val (pe_cx c_is_whole hr (by first | decide | omega) rfl (passE rfl rfl rfl rfl) (pa_cons (pv 2) pa_nil)))) (pss_one (ps_raise rfl (takes_of rfl rfl rfl rfl) (pmk_exn x_BadPart hr (by first | decide | omega) rfl (pa_cons (pv 1) pa_nil) (by simp)))) pss_nil)))
      (pss_one (ps_ret (pe_mkx m_Numbers hr (by first | decide | omega) rfl (passE rfl rfl rfl rfl) (pa_cons (pe_lc (own := [("n", 2)]) (g := gName 2) rfl sc_Numbers_of.nd (pi_tupK K (pv 0)) (blkOk_by (own := [("n", 2)]) (N := ["integers", "index", "n"]) (sc := defScope s_Numbers_of) (by decide +kernel)) (fun _ _ _ _ _ => (pg_name (i := 2) sc_Numbers_of.nd rfl (Or.inl rfl))) (fun _ _ _ _ _ => pts_nil) (fun _ _ _ _ _ => (pe_tup (pa_cons (pv 2) (pa_cons pe_int pa_nil))))) pa_nil))))), ?_⟩
  generalize hσ : L2.start _ _ = σ0
  obtain rfl : σ0 = [some (.ref p), none, none] := hσ.symm
  clear hσ
  have hlen := pp.len
  walk_at "g"
  refine ⟨p, _, rfl, hp, ?_⟩
  refine for_it (walk_enT (K := K) (a := p) (xs := us)) (fun i σ H' => ∃ a1 a2 : Option V, σ = [some (.ref p), a1, a2] ∧ Same H H' ∧ ∀ j, j < i → os[j]? ≠ some none) ⟨_, _, rfl, Same.refl H, fun j hj => (by omega)⟩ ?_ ?_ ?_
  · rintro i σ H' hi ⟨a1, a2, rfl, s1, _⟩
    exact s1.seqT hp
  · rintro i y σ H1 H2 hi ⟨a1, a2, rfl, s1, hj⟩ ⟨tt, z, rfl, nt, rfl, hy⟩
    obtain ⟨o, ho, hz⟩ := pp.getl hy
    have s2 : Same H (upd H1 tt (.tup [.int (i : Nat), z])) := s1.upd' nt
    refine ⟨tt, _, rfl, SqT.of upd_same, rfl, _, _, rfl, _, _, rfl, rfl, ?_⟩
    generalize upd H1 tt (.tup [.int (i : Nat), z]) = H2 at *
    clear nt
    walk_at "g"
    cases o with
    | none =>
      refine ⟨_, _, rfl, isW_same s2 hz, ?_⟩
      walk_at "g"
      exact fun d nd => kE i _ _ _ (s2.trans (same_upd nd)) ho hj ⟨rfl, d, rfl, upd_same⟩
    | some c =>
      obtain rfl : z = .int c := hz
      refine ⟨_, _, rfl, isW_int _, ?_⟩
      walk_at "g"
      refine ⟨s2, fun j hji e => ?_⟩
      by_cases q : j < i
      · exact hj j q e
      · obtain rfl : j = i := by omega
        rw [ho] at e
        cases e
  · rintro σ H1 ⟨a1, a2, rfl, s1, hj⟩
    have nn : ∀ o ∈ os, o ≠ none := fun o ho e => by
      obtain ⟨j, hj', ej⟩ := List.mem_iff_getElem.mp ho
      exact hj j (by omega) (by rw [List.getElem?_eq_getElem hj', ej, e])
    obtain ⟨ns, rfl, rfl⟩ := all_int pp nn
    rw [List.length_map] at h64
    have k := fun x H' => k ns x H' rfl
    clear kE hj nn pp
    walk_at "g"
    refine ⟨⟨_, s1.seqT hp⟩, fun D nD => ?_⟩
    have wl : Walk (Itt K p) ns.length (fun H => SqT K H p (ns.map V.int)) (YAt (ns.map V.int)) := by
      have := walk_tup (K := K) (a := p) (xs := ns.map V.int)
      rwa [List.length_map] at this
    refine lc_gen wl (fun n => [some (.ref p), a1, some (.int n)]) (fun _ => true) (fun y n H => ∃ t, y = .ref t ∧ PrT H t (n, 0)) ?_ nD (by omega) (fun H s => (s1.trans s).seqT hp) ?_ (fun _ _ => rfl) (fun c _ H Q _ q => q H (Same.refl H)) ?_ ?_
    · rintro y c H H' acc hD kp ⟨t, rfl, ht⟩
      exact ⟨t, rfl, kp _ _ ht (ht.ne hD)⟩
    · rintro i H2 y H2' c hc s2 ⟨rfl, hy⟩
      rw [List.getElem?_map, hc] at hy
      cases hy
      exact ⟨Same.refl _, fun Q q => q⟩
    · intro c hcm _ H2 Q2 s2 q
      walk_at "g"
      refine ⟨by show 2 ≤ sizeLine; decide, fun t nt => ?_⟩
      exact q _ _ (same_upd nt) ⟨t, rfl, upd_same⟩
    · intro ys H2 s2 hD2 py
      rw [filter_all] at py
      walk_at "g"
      intro x dx nx ndx _
      refine nA nx ndx (.inl (SqL.of hD2)) (cs := ns.map fun n => (n, 0)) (P2.mapr (py.mono fun v n ⟨t, e, q⟩ => ⟨t, e, .inr q⟩)) (fun c hc => by obtain ⟨n, _, rfl⟩ := List.mem_map.mp hc; exact ⟨Int.le_refl _, Bd.mono (n := 5) (by show (0 : Int).natAbs < 2 ^ 5; decide) (by decide)⟩) (by rw [List.length_map]; exact h64) fun H' s' h _ => ⟨rfl, ?_⟩
      exact k _ _ ((s1.trans s2).trans s') h
end
end Tr

namespace Tr
open PySem L2
/-- steps of a reading that are plain -/
local macro_rules | `(tactic| walk_at "x") => `(tactic| (refine' ⟨_, _, _, _, rfl, rfl, ?k1, ?k2, ?_⟩; (case k1 => exact SqT.of (by assumption)); (case k2 => exact rfl)))
local macro_rules | `(tactic| walk_at "g") => `(tactic| repeat (first | (refine ⟨_, rfl, ?_⟩) | (refine ⟨_, _, rfl, rfl, ?_⟩) | (refine ⟨_, _, rfl, ?_⟩) | (refine ⟨rfl, ?_⟩) | walk_at "x"))


/-! ### in, bool, is_finite of a Numbers -/
theorem inV_int (n : Int) (ns : List Int) : inV (.int n) (ns.map V.int) = decide (n ∈ ns) := by
  unfold inV
  rw [List.any_map, Bool.eq_iff_iff, List.any_eq_true, decide_eq_true_eq]
  constructor
  · rintro ⟨m, hm, e⟩
    have : m = n := by simpa [eqV] using e
    rw [← this]
    exact hm
  · intro h
    exact ⟨n, h, by simp [eqV]⟩
theorem flat_ints (ns : List Int) : (ns.map V.int).all flatV = true := by
  rw [List.all_map]
  exact List.all_eq_true.mpr fun _ _ => rfl
/-- membership -/
def hasB (ds : List Cl) (ns : List Int) (n : Int) : Bool := decide (n ∈ ns) || covB ds n
def has (ds : List Cl) (ns : List Int) (n : Int) : Prop := n ∈ ns ∨ cov ds n
theorem hasB_iff (ds : List Cl) (ns : List Int) (n : Int) : hasB ds ns n = true ↔ has ds ns n := by
  unfold hasB has
  rw [Bool.or_eq_true, decide_eq_true_eq, covB_iff]
theorem hasB_no {ds : List Cl} {ns : List Int} {n : Int} (h : hasB ds ns n = false) : ¬ has ds ns n := fun k => by
  rw [(hasB_iff ds ns n).mpr k] at h
  cases h
/-- what a Numbers keeps of its parts -/
structure Ok (ds : List Cl) (ns : List Int) : Prop where
  wf : WfC ds
  l1 : ds.length < 64
  l2 : ns.length < 64
section
variable {P : Program} {w : World} {K : PySem.W.Frag} {mg : Str → Option Value} {base : Heap}
def spHas (K : PySem.W.Frag) (C : Addr) : Sp := fun vs H Q _ => ∃ (a : Addr) (x : V), vs = [.ref a, x] ∧ ((∃ (n : Int) (ds : List Cl) (ns : List Int), x = .int n ∧ NumAt C H a ds ns ∧ Ok ds ns ∧ ∀ H', Same H H' → Q (.bl (hasB ds ns n)) H') ∨ (IsW K H x false ∧ ∀ H', Same H H' → Q (.bl false) H'))
theorem c_has (T : Txt K mg) : Met P w K mg base 2 (He.ga K "Numbers") "__contains__" (spHas K (He.ga K "Numbers")) [] := by
  have c_is_whole := @c_is_whole P w K mg base T
  have c_is_covered := @c_is_covered P w K mg base T
  refine metN T.m_Numbers____contains__ sc_Numbers___contains__ (fun vs H Q E h => ?_) (fun _ _ _ _ _ _ us hl => match us, hl with | [_, _], _ => rfl) (fun f cdv A outer s H vs Q E hr h => ?_)
  · obtain ⟨a, x, rfl, _⟩ := h
    rfl
  · obtain ⟨a, x, rfl, h⟩ := h
    refine ⟨_, (pss_one (ps_ret (pe_and (pe_cx c_is_whole hr (by first | decide | omega) rfl passL (pa_cons (pv 1) pa_nil)) (pe_one (pe_or (pe_cmpR op_in_seq (pv 1) (pe_fldK K (pv 0) (by rfl)) (by rfl)) (pe_one (pe_cx c_is_covered hr (by first | decide | omega) rfl passL (pa_cons (pv 1) (pa_cons (pe_fldK K (pv 0) (by rfl)) pa_nil))))))))), ?_⟩
    rcases h with ⟨n, ds, ns, rfl, hN, ok, k⟩ | ⟨hw, k⟩
    · obtain ⟨dx, q1, q2, e1, e2, e3⟩ := hN.ex
      walk_at "g"
      refine ⟨_, _, rfl, isW_int n, true, rfl, ?_⟩
      walk_at "g"
      refine ⟨a, _, dx, _, _, rfl, e1, T.k_Numbers, T.a_Numbers__singles, rfl, ?_⟩
      refine ⟨q2, _, rfl, .inl (SqL.of e3), rfl, flat_ints ns, ?_⟩
      show ∃ c, V.bl (inV (.int n) (ns.map V.int)) = V.bl c ∧ _
      refine ⟨_, rfl, ?_⟩
      rw [inV_int]
      unfold hasB at k
      cases hb : decide (n ∈ ns) with
      | true =>
        rw [hb] at k
        exact k H (Same.refl _)
      | false =>
        rw [hb] at k
        walk_at "g"
        refine ⟨a, _, dx, _, _, rfl, e1, T.k_Numbers, T.a_Numbers__classes, rfl, ?_⟩
        refine ⟨n, q1, ds, rfl, e2, fun c hc => (ok.wf c hc).1, by have := ok.l1; omega, fun H' s' => k H' s'⟩
    · walk_at "g"
      exact ⟨_, _, rfl, hw, false, rfl, k _ (Same.refl _)⟩
end
end Tr

namespace Tr
open PySem L2
/-- steps of a reading that are plain -/
local macro_rules | `(tactic| walk_at "x") => `(tactic| (refine' ⟨_, _, _, _, rfl, rfl, ?k1, ?k2, ?_⟩; (case k1 => exact SqT.of (by assumption)); (case k2 => exact rfl)))
local macro_rules | `(tactic| walk_at "g") => `(tactic| repeat (first | (refine ⟨_, rfl, ?_⟩) | (refine ⟨_, _, rfl, rfl, ?_⟩) | (refine ⟨_, _, rfl, ?_⟩) | (refine ⟨rfl, ?_⟩) | walk_at "x"))


/-! ### outside, within, == -/
theorem lcm_eq {a b : Int} (ha : 0 < a) (hb : 0 < b) : a / Int.gcd a b * b = Int.lcm a b := by
  have h := Int.gcd_mul_lcm a b
  have g0 : 0 < Int.gcd a b := Int.gcd_pos_of_ne_zero_left _ (by omega)
  obtain ⟨a', ha'⟩ := Int.gcd_dvd_left a b
  have e : a / Int.gcd a b = a' := Int.ediv_eq_of_eq_mul_right (by omega) ha'
  rw [e]
  have na : (a.natAbs : Int) = a := by omega
  have nb : (b.natAbs : Int) = b := by omega
  have h2 : (Int.gcd a b : Int) * (Int.lcm a b : Int) = a * b := by
    rw [← Int.natCast_mul, h, Int.natCast_mul, na, nb]
  have h4 : (Int.gcd a b : Int) * (a' * b) = (Int.gcd a b : Int) * Int.lcm a b := by
    rw [h2, ← Int.mul_assoc, ← ha']
  exact Int.eq_of_mul_eq_mul_left (by omega) h4
theorem lcm_pos' {a b : Int} (ha : 0 < a) (hb : 0 < b) : 0 < (Int.lcm a b : Int) := by
  have h := Int.gcd_mul_lcm a b
  have : Int.lcm a b ≠ 0 := fun z => by
    rw [z, Nat.mul_zero] at h
    rcases Nat.mul_eq_zero.mp h.symm with h | h
    · omega
    · omega
  omega
theorem le_of_dvd' {a L : Int} (hL : 0 < L) (h : a ∣ L) : a ≤ L := Int.le_of_dvd hL h
theorem RefL.dvd {r m : Int} {cs ds : List Cl} (h : RefL r m cs ds) (hp : ∀ c ∈ cs, 0 < c.2) : ∀ d ∈ ds, ∃ c ∈ cs, d.2 ∣ c.2 := by
  induction h with
  | nil => intro d hd; cases hd
  | no _ _ ih =>
    intro d hd
    obtain ⟨c, hc, e⟩ := ih (fun c hc => hp c (List.mem_cons_of_mem _ hc)) d hd
    exact ⟨c, List.mem_cons_of_mem _ hc, e⟩
  | yes _ hr _ ih =>
    intro d hd
    rcases List.mem_cons.mp hd with rfl | hd
    · refine ⟨_, List.mem_cons_self, ?_⟩
      obtain ⟨m', k', e1, e2, e3, e4, e5, e6⟩ := ediv_gcd (m := m) (hp _ List.mem_cons_self)
      dsimp only at e2 e5 ⊢
      rw [e5]
      exact ⟨_, by rw [Int.mul_comm]; exact e2⟩
    · obtain ⟨c, hc, e⟩ := ih (fun c hc => hp c (List.mem_cons_of_mem _ hc)) d hd
      exact ⟨c, List.mem_cons_of_mem _ hc, e⟩
theorem Refd.dvd {r m : Int} {cs es : List Cl} (h : Refd r m cs es) (hp : ∀ c ∈ cs, 0 < c.2) : ∀ d ∈ es, ∃ c ∈ cs, d.2 ∣ c.2 := by
  obtain ⟨ds, h1, h2⟩ := h.ex
  intro e he
  obtain ⟨d, hd, e1, _⟩ := h2.from_ e he
  obtain ⟨c, hc, e⟩ := h1.dvd hp d hd
  exact ⟨c, hc, by rw [e1]; exact e⟩
/-- what outside tells -/
def OutR (ds : List Cl) (ns : List Int) (es : List Cl) (ms : List Int) : Option Int → Prop
  | none => ∀ n, has ds ns n → has es ms n
  | some n => has ds ns n ∧ ¬ has es ms n
def muOut (r m : Int) (ms : List Int) : St → Hp → Nat := fun σ _ => match σ[6]? with
  | some (some (V.int b)) => (ms.filter fun x => decide (r + m * b ≤ x)).length
  | _ => 0
theorem filter_less {α : Type} (p q : α → Bool) (l : List α) (hpq : ∀ x, p x = true → q x = true) (x : α) (hx : x ∈ l) (h1 : q x = true) (h2 : p x = false) : (l.filter p).length < (l.filter q).length := by
  induction l with
  | nil => cases hx
  | cons a l ih =>
    have hle : ∀ l : List α, (l.filter p).length ≤ (l.filter q).length := fun l => by
      induction l with
      | nil => exact Nat.le_refl _
      | cons b l ih =>
        rw [List.filter_cons, List.filter_cons]
        cases hb : p b with
        | true => rw [hpq b hb, if_pos rfl, if_pos rfl]; exact Nat.succ_le_succ ih
        | false =>
          rw [if_neg (by simp)]
          split
          · exact Nat.le_succ_of_le ih
          · exact ih
    rw [List.filter_cons, List.filter_cons]
    rcases List.mem_cons.mp hx with e | hx
    · rw [← e, h1, h2, if_neg (by simp), if_pos rfl]
      exact Nat.lt_succ_of_le (hle l)
    · cases hb : p a with
      | true => rw [hpq a hb, if_pos rfl, if_pos rfl]; exact Nat.succ_lt_succ (ih hx)
      | false =>
        rw [if_neg (by simp)]
        split
        · exact Nat.lt_succ_of_lt (ih hx)
        · exact ih hx
section
variable {P : Program} {w : World} {K : PySem.W.Frag} {mg : Str → Option Value} {base : Heap}
def spOut (C : Addr) : Sp := fun vs H Q _ => ∃ (a b : Addr) (ds : List Cl) (ns : List Int) (es : List Cl) (ms : List Int) (L : Int), vs = [.ref a, .ref b] ∧ NumAt C H a ds ns ∧ NumAt C H b es ms ∧ Ok ds ns ∧ Ok es ms ∧
  0 < L ∧ Bd 6000 L ∧ (∀ e ∈ es, e.2 ∣ L) ∧ ∀ o H', Same H H' → OutR ds ns es ms o → Q (oV o) H'
theorem c_outside (T : Txt K mg) : Met P w K mg base 70 (He.ga K "Numbers") "outside" (spOut (He.ga K "Numbers")) [] := by
  have c___contains__ := @c_has P w K mg base T
  have c_refined := @c_refined P w K mg base T
  have c_bare_number := @c_bare_number P w K mg base T 65
  have c_common_multiple := @c_common_multiple P w K mg base T
  refine metN T.m_Numbers__outside sc_Numbers_outside (fun vs H Q E h => ?_) (fun _ _ _ _ _ _ us hl => match us, hl with | [_, _], _ => rfl) (fun f cdv A outer s H vs Q E hr h => ?_)
  · obtain ⟨a, b, _, _, _, _, _, rfl, _⟩ := h
    rfl
  · obtain ⟨a, b, ds, ns, es, ms, L, rfl, hA, hB, okA, okB, L0, LB, hL, k⟩ := h
    obtain ⟨dxa, qa1, qa2, a1, ⟨tsa, a2, pa⟩, a3⟩ := hA.ex
    obtain ⟨dxb, qb1, qb2, b1, b2, b3⟩ := id hB.ex
    refine ⟨_, (pss_cons (ps_for PassesOwn.never rfl (pi_list (pe_fldK K (pv 0) (by rfl))) (pg_name (i := 2) sc_Numbers_outside.nd rfl (Or.inl rfl)) (pss_one (ps_if (pt_cmpR (or_notInO c___contains__ hr (by first | decide | omega) passL) (pv 2) (pv 1) (by rfl)) (pss_one (ps_ret (pv 2))) pss_nil)))
      (pss_cons (ps_for PassesOwn.never rfl (pi_list (pe_fldK K (pv 0) (by rfl))) (pg_tup rfl (pgs_cons (pg_name (i := 3) sc_Numbers_outside.nd rfl (Or.inl rfl)) (pgs_cons (pg_name (i := 4) sc_Numbers_outside.nd rfl (Or.inl rfl)) pgs_nil))) (pss_cons (ps_set (i := 5) sc_Numbers_outside.nd rfl (Or.inl rfl) (pe_cx c_refined hr (by first | decide | omega) rfl passL (pa_cons (pe_fldK K (pv 1) (by rfl)) (pa_cons (pv 3) (pa_cons (pv 4) pa_nil)))))
      (pss_cons (ps_set (i := 6) sc_Numbers_outside.nd rfl (Or.inl rfl) (pe_cx c_bare_number hr (by first | decide | omega) rfl passL (pa_cons (pv 5) pa_nil)))
      (pss_one (ps_if (pt_cmpR op_notN (pv 6) pe_non (nomark _)) (pss_cons (ps_set (i := 7) sc_Numbers_outside.nd rfl (Or.inl rfl) pe_int)
      (pss_cons (ps_for PassesOwn.never rfl (pi_list (pv 5)) (pg_tup rfl (pgs_cons (pg_name (i := 8) sc_Numbers_outside.nd rfl (Or.inl rfl)) (pgs_cons (pg_name (i := 9) sc_Numbers_outside.nd rfl (Or.inl rfl)) pgs_nil))) (pss_one (ps_set (i := 7) sc_Numbers_outside.nd rfl (Or.inl rfl) (pe_cx c_common_multiple hr (by first | decide | omega) rfl passL (pa_cons (pv 7) (pa_cons (pv 9) pa_nil))))))
      (pss_cons (ps_while PassesOwn.never (pt_cmpR op_in_seq (pe_op op_add (pv 3) (pe_op op_mulW (pv 4) (pv 6))) (pe_fldK K (pv 1) (by rfl)) (by rfl)) (pss_one (ps_set (i := 6) sc_Numbers_outside.nd rfl (Or.inl rfl) (pe_op op_add (pv 6) (pv 7)))))
      (pss_one (ps_ret (pe_op op_add (pv 3) (pe_op op_mulW (pv 4) (pv 6)))))))) pss_nil)))))
      (pss_one (ps_ret pe_non)))), ?_⟩
    have hla := pa.len
    walk_at "g"
    refine ⟨a, _, dxa, _, _, rfl, a1, T.k_Numbers, T.a_Numbers__singles, rfl, ?_⟩
    refine ⟨qa2, rfl, ⟨_, SqL.of a3⟩, ?_⟩
    refine for_list (xs := ns.map V.int) (fun i σ H' => ∃ v : Option V, σ = [some (.ref a), some (.ref b), v, none, none, none, none, none, none, none] ∧ Same H H' ∧ ∀ n ∈ ns.take i, has es ms n) ⟨_, rfl, Same.refl H, fun n hn => by cases hn⟩ ?_ ?_ ?_
    · rintro i σ H' _ ⟨v, rfl, s1, _⟩
      exact SqL.of (s1 _ _ a3)
    · rintro i y σ H' hy ⟨v, rfl, s1, hh⟩
      rw [List.getElem?_map] at hy
      cases hn : ns[i]? with
      | none => rw [hn] at hy; cases hy
      | some n =>
        rw [hn] at hy
        cases hy
        walk_at "g"
        refine ⟨b, dxb, _, rfl, s1 _ _ b1, b, _, rfl, .inl ⟨n, es, ms, rfl, hB.same s1, okB, fun H2 s2 => ⟨_, rfl, ?_⟩⟩⟩
        refine ⟨_, rfl, ?_⟩
        cases hb : hasB es ms n with
        | true =>
          refine iteF ?_
          refine ⟨_, rfl, s1.trans s2, fun n' hn' => ?_⟩
          rw [take_snoc hn] at hn'
          rcases List.mem_append.mp hn' with hn' | hn'
          · exact hh n' hn'
          · rw [List.mem_singleton.mp hn']
            exact (hasB_iff _ _ _).mp hb
        | false =>
          refine iteT ?_
          walk_at "g"
          exact k (some n) H2 (s1.trans s2) ⟨.inl (mem_of_at hn), hasB_no hb⟩
    · rintro σ H1 ⟨v, rfl, s1, hh⟩
      rw [List.length_map, List.take_length] at hh
      walk_at "g"
      refine ⟨a, _, dxa, _, _, rfl, s1 _ _ a1, T.k_Numbers, T.a_Numbers__classes, rfl, ?_⟩
      refine ⟨qa1, rfl, ⟨_, SqL.of (s1 _ _ a2)⟩, ?_⟩
      refine for_pairs (ts := tsa) (cs := ds) (fun i σ H' => ∃ v0 v1 v2 v3 v4 v5 v6 v7 : Option V, σ = [some (.ref a), some (.ref b), v0, v1, v2, v3, v4, v5, v6, v7] ∧ Same H H' ∧ ∀ c ∈ ds.take i, ∀ x : Int, has es ms (c.1 + c.2 * x)) ⟨_, _, _, _, _, _, _, _, rfl, s1, fun c hc => by cases hc⟩ ?_ ?_ ?_
      · rintro i σ H' _ ⟨v0, v1, v2, v3, v4, v5, v6, v7, rfl, s2, _⟩
        exact ⟨SqL.of (s2 _ _ a2), pa.same s2⟩
      · rintro i c σ H' hci ⟨v0, v1, v2, v3, v4, v5, v6, v7, rfl, s2, hh2⟩
        have hcm := mem_of_at hci
        obtain ⟨m0, mB, r0, rB⟩ := okA.wf c hcm
        walk_at "g"
        refine ⟨b, _, dxb, _, _, rfl, s2 _ _ b1, T.k_Numbers, T.a_Numbers__classes, rfl, ?_⟩
        walk_at "g"
        refine ⟨qb1, es, c.1, c.2, rfl, b2.same s2, m0, mB, rB, fun d hd => ⟨(okB.wf d hd).1, (okB.wf d hd).2.1, (okB.wf d hd).2.2.2⟩, okB.l1, fun p' fs H3 s3 np' hfs rd => ?_⟩
        have fwf := rd.wf fun d hd => ⟨(okB.wf d hd).1, (okB.wf d hd).2.1⟩
        have flen := rd.len
        have fdvd : ∀ d ∈ fs, d.2 ∣ L := fun d hd => by
          obtain ⟨e, he, z⟩ := rd.dvd (fun d hd => (okB.wf d hd).1) d hd
          exact Int.dvd_trans z (hL e he)
        walk_at "g"
        refine ⟨p', fs, rfl, hfs, fwf, Nat.lt_of_le_of_lt flen okB.l1, .inl (by have := okB.l1; omega), fun o H4 s4 hb hob => ?_⟩
        have s04 : Same H H4 := (s2.trans s3).trans s4
        walk_at "g"
        rw [oV_none]
        cases o with
        | none =>
          refine iteF ?_
          refine ⟨_, _, _, _, _, _, _, _, rfl, s04, fun c' hc' x => ?_⟩
          rw [take_snoc hci] at hc'
          rcases List.mem_append.mp hc' with hc' | hc'
          · exact hh2 c' hc' x
          · rw [List.mem_singleton.mp hc']
            exact .inr ((rd.cov x).mp (hb x))
        | some b0 =>
          refine iteT ?_
          obtain ⟨b00, b01⟩ := hb
          have b0B : Bd 400 b0 := by
            have h1 : b0 < ((2 ^ (6 * 65) : Nat) : Int) := hob
            have h2 : 2 ^ (6 * 65) ≤ 2 ^ 400 := Nat.pow_le_pow_right (by decide) (by decide)
            show b0.natAbs < 2 ^ 400
            generalize 2 ^ (6 * 65) = z at h1 h2
            generalize 2 ^ 400 = y at h2 ⊢
            omega
          walk_at "g"
          obtain ⟨tsf, f1, pf⟩ := hfs
          refine ⟨⟨_, SqL.of (s4 _ _ f1)⟩, ?_⟩
          refine for_pairs (ts := tsf) (cs := fs) (fun j σ H' => ∃ (g : Int) (v6 v7 : Option V), σ = [some (.ref a), some (.ref b), v0, some (.int c.1), some (.int c.2), some (.ref p'), some (.int b0), some (.int g), v6, v7] ∧ Same H4 H' ∧ 0 < g ∧ g ∣ L ∧ ∀ d ∈ fs.take j, d.2 ∣ g) ⟨1, _, _, rfl, Same.refl _, by omega, Int.one_dvd _, fun d hd => by cases hd⟩ ?_ ?_ ?_
          · rintro j σ H' _ ⟨g, v6, v7, rfl, s5, _⟩
            exact ⟨SqL.of (s5 _ _ (s4 _ _ f1)), (pf.same s4).same s5⟩
          · rintro j d σ H' hdj ⟨g, v6, v7, rfl, s5, g0, gL, hg⟩
            have hdm := mem_of_at hdj
            have dp := (fwf d hdm).1
            have gB : Bd 6000 g := LB.le (by have := le_of_dvd' L0 gL; omega)
            walk_at "g"
            refine ⟨dp, gB.mono (by decide), (fwf d hdm).2.1, ?_⟩
            walk_at "g"
            rw [lcm_eq g0 dp]
            refine ⟨_, _, _, rfl, s5, lcm_pos' g0 dp, Int.coe_lcm_dvd gL (fdvd d hdm), fun d' hd' => ?_⟩
            rw [take_snoc hdj] at hd'
            rcases List.mem_append.mp hd' with hd' | hd'
            · exact Int.dvd_trans (hg d' hd') (Int.dvd_lcm_left _ _)
            · rw [List.mem_singleton.mp hd']
              exact Int.dvd_lcm_right _ _
          · rintro σ H5 ⟨g, v6, v7, rfl, s5, g0, gL, hg⟩
            rw [List.take_length] at hg
            have gB : Bd 6000 g := LB.le (by have := le_of_dvd' L0 gL; omega)
            have s05 := s04.trans s5
            walk_at "g"
            have notcov : ∀ j : Nat, ¬ cov es (c.1 + c.2 * (b0 + (j : Int) * g)) := fun j hcv => by
              obtain ⟨d, hd, z⟩ := (rd.cov _).mpr hcv
              refine b01 ⟨d, hd, ?_⟩
              have h1 : d.2 ∣ (j : Int) * g := Int.dvd_trans (hg d hd) (Int.dvd_mul_left _ _)
              have h2 : b0 - d.1 = b0 + (j : Int) * g - d.1 - (j : Int) * g := by omega
              rw [h2]
              exact Int.dvd_sub z h1
            have bbB : ∀ (j : Nat), j ≤ 64 → Bd 6500 (b0 + (j : Int) * g) := fun j hj => by
              have h1 : Bd (7 + 6000) ((j : Int) * g) := Bd.mul (n := 7) (by show (j : Int).natAbs < 2 ^ 7; omega) gB
              exact (b0B.mono (m := 6007) (by decide)).add h1 (by decide)
            refine wh (fun σ H' => ∃ (j : Nat) (bb : Int), bb = b0 + (j : Int) * g ∧ σ = [some (.ref a), some (.ref b), v0, some (.int c.1), some (.int c.2), some (.ref p'), some (.int bb), some (.int g), v6, v7] ∧ Same H5 H' ∧
              j + (ms.filter fun x => decide (c.1 + c.2 * bb ≤ x)).length ≤ ms.length) (muOut c.1 c.2 ms) ⟨0, b0, by simp, rfl, Same.refl _, by simpa using List.length_filter_le _ _⟩ ?_ ?_
            · rintro σ H6 ⟨j, bb, hbb, rfl, s6, hj⟩
              have j64 : j ≤ 64 := by have := okB.l2; omega
              have hbB : Bd 6500 bb := by rw [hbb]; exact bbB j j64
              have s06 := s05.trans s6
              walk_at "g"
              refine ⟨cmulw mB hbB (by omega), ?_⟩
              walk_at "g"
              refine ⟨b, _, dxb, _, _, rfl, s06 _ _ b1, T.k_Numbers, T.a_Numbers__singles, rfl, ?_⟩
              refine ⟨qb2, _, rfl, .inl (SqL.of (s06 _ _ b3)), rfl, flat_ints ms, ?_⟩
              refine ⟨inV (.int (c.1 + c.2 * bb)) (ms.map V.int), rfl, ?_⟩
              rw [inV_int]
              refine iteB (fun c1 => ?_) (fun c1 => ?_)
              · have hin : c.1 + c.2 * bb ∈ ms := of_decide_eq_true c1
                have up : c.1 + c.2 * bb < c.1 + c.2 * (bb + g) := by
                  have := Int.mul_pos m0 g0
                  rw [Int.mul_add]
                  omega
                have less : (ms.filter fun x => decide (c.1 + c.2 * (bb + g) ≤ x)).length < (ms.filter fun x => decide (c.1 + c.2 * bb ≤ x)).length :=
                  filter_less _ _ ms (fun x hx => decide_eq_true (by have := of_decide_eq_true hx; omega)) _ hin (decide_eq_true (Int.le_refl _)) (decide_eq_false (by omega))
                refine ⟨fun σ' H7 => σ' = [some (.ref a), some (.ref b), v0, some (.int c.1), some (.int c.2), some (.ref p'), some (.int (bb + g)), some (.int g), v6, v7] ∧ H7 = H6, ?_, ?_⟩
                · rintro σ' H7 ⟨rfl, rfl⟩
                  refine ⟨⟨j + 1, bb + g, ?_, rfl, s6, by omega⟩, less⟩
                  rw [hbb, Int.natCast_add, Int.add_mul]
                  simp only [Int.natCast_one, Int.one_mul]
                  omega
                · walk_at "g"
                  exact rfl
              · have hin : ¬ c.1 + c.2 * bb ∈ ms := of_decide_eq_false c1
                walk_at "g"
                refine ⟨cmulw mB hbB (by omega), ?_⟩
                walk_at "g"
                refine k (some (c.1 + c.2 * bb)) H6 s06 ⟨.inr ⟨c, hcm, bb, by omega⟩, ?_⟩
                rintro (h | h)
                · exact hin h
                · rw [hbb] at h
                  exact notcov j h
            · rintro σ H' Q1 Q2 hq h
              repeat (first | exact hq _ _ h | (obtain ⟨w1, h⟩ := h; refine ⟨w1, ?_⟩))
      · rintro σ H' ⟨v0, v1, v2, v3, v4, v5, v6, v7, rfl, s2, hh2⟩
        rw [List.take_length] at hh2
        walk_at "g"
        refine k none H' s2 fun n hn => ?_
        rcases hn with hn | ⟨c, hc, z, hz⟩
        · exact hh n hn
        · have := hh2 c hc z
          have e : c.1 + c.2 * z = n := by omega
          rw [e] at this
          exact this
def spWithin (C : Addr) : Sp := fun vs H Q _ => ∃ (a b : Addr) (ds : List Cl) (ns : List Int) (es : List Cl) (ms : List Int) (L : Int), vs = [.ref a, .ref b] ∧ NumAt C H a ds ns ∧ NumAt C H b es ms ∧ Ok ds ns ∧ Ok es ms ∧
  0 < L ∧ Bd 6000 L ∧ (∀ e ∈ es, e.2 ∣ L) ∧ ∀ (r : Bool) H', Same H H' → (r = true ↔ ∀ n, has ds ns n → has es ms n) → Q (.bl r) H'
theorem OutR.is {ds es : List Cl} {ns ms : List Int} {o : Option Int} (h : OutR ds ns es ms o) : (o.isNone = true ↔ ∀ n, has ds ns n → has es ms n) := by
  cases o with
  | none => exact ⟨fun _ => h, fun _ => rfl⟩
  | some n => exact ⟨fun z => (by cases z), fun z => (h.2 (z n h.1)).elim⟩
theorem c_within (T : Txt K mg) : Met P w K mg base 71 (He.ga K "Numbers") "within" (spWithin (He.ga K "Numbers")) [] := by
  have c_outside := @c_outside P w K mg base T
  refine metN T.m_Numbers__within sc_Numbers_within (fun vs H Q E h => ?_) (fun _ _ _ _ _ _ us hl => match us, hl with | [_, _], _ => rfl) (fun f cdv A outer s H vs Q E hr h => ?_)
  · obtain ⟨a, b, _, _, _, _, _, rfl, _⟩ := h
    rfl
  · obtain ⟨a, b, ds, ns, es, ms, L, rfl, hA, hB, okA, okB, L0, LB, hL, k⟩ := h
    obtain ⟨dxa, qa1, qa2, a1, _⟩ := id hA.ex
    refine ⟨_, (pss_one (ps_ret (pe_cmpR op_isN (pe_mtx c_outside hr (by first | decide | omega) passL (pv 0) (pa_cons (pv 1) pa_nil)) pe_non (nomark _)))), ?_⟩
    walk_at "g"
    refine ⟨a, dxa, _, rfl, a1, rfl, ?_⟩
    walk_at "g"
    refine ⟨a, b, ds, ns, es, ms, L, rfl, hA, hB, okA, okB, L0, LB, hL, fun o H' s' hr => ?_⟩
    walk_at "g"
    rw [oV_none]
    exact k _ H' s' hr.is
def spEqN (C : Addr) : Sp := fun vs H Q _ => ∃ (a b : Addr) (ds : List Cl) (ns : List Int) (es : List Cl) (ms : List Int) (L : Int), vs = [.ref a, .ref b] ∧ NumAt C H a ds ns ∧ NumAt C H b es ms ∧ Ok ds ns ∧ Ok es ms ∧
  0 < L ∧ Bd 6000 L ∧ (∀ e ∈ ds, e.2 ∣ L) ∧ (∀ e ∈ es, e.2 ∣ L) ∧ ∀ (r : Bool) H', Same H H' → (r = true ↔ ∀ n, has ds ns n ↔ has es ms n) → Q (.bl r) H'
theorem c_eq (T : Txt K mg) : Met P w K mg base 71 (He.ga K "Numbers") "__eq__" (spEqN (He.ga K "Numbers")) [] := by
  have c_outside := @c_outside P w K mg base T
  refine metN T.m_Numbers____eq__ sc_Numbers___eq__ (fun vs H Q E h => ?_) (fun _ _ _ _ _ _ us hl => match us, hl with | [_, _], _ => rfl) (fun f cdv A outer s H vs Q E hr h => ?_)
  · obtain ⟨a, b, _, _, _, _, _, rfl, _⟩ := h
    rfl
  · obtain ⟨a, b, ds, ns, es, ms, L, rfl, hA, hB, okA, okB, L0, LB, hLd, hLe, k⟩ := h
    obtain ⟨dxa, qa1, qa2, a1, _⟩ := id hA.ex
    obtain ⟨dxb, qb1, qb2, b1, _⟩ := id hB.ex
    refine ⟨_, (pss_one (ps_ret (pe_and (pe_callB call_isi (by rfl) T.b_isinstance (by decide +kernel) (pa_cons (pv 1) (pa_cons (pe_glob (v := .ref (He.ga K "Numbers")) (by rfl) T.v_Numbers rfl) pa_nil))) (pe_and (pe_cmpR op_isN (pe_mtx c_outside hr (by first | decide | omega) passL (pv 0) (pa_cons (pv 1) pa_nil)) pe_non (nomark _)) (pe_one (pe_cmpR op_isN (pe_mtx c_outside hr (by first | decide | omega) passL (pv 1) (pa_cons (pv 0) pa_nil)) pe_non (nomark _))))))), ?_⟩
    walk_at "g"
    refine ⟨.ref b, .ref (He.ga K "Numbers"), _, _, true, rfl, .own _, T.o_Numbers.ty T.k_Numbers b1, kit_self, true, rfl, ?_⟩
    walk_at "g"
    refine ⟨a, dxa, _, rfl, a1, rfl, ?_⟩
    walk_at "g"
    refine ⟨a, b, ds, ns, es, ms, L, rfl, hA, hB, okA, okB, L0, LB, hLe, fun o H1 s1 h1 => ?_⟩
    walk_at "g"
    rw [oV_none]
    have i1 := h1.is
    cases hb : o.isNone with
    | false =>
      refine k false H1 s1 ⟨fun z => (by cases z), fun z => ?_⟩
      rw [hb] at i1
      exact i1.mpr fun n hn => (z n).mp hn
    | true =>
      rw [hb] at i1
      walk_at "g"
      refine ⟨b, dxb, _, rfl, s1 _ _ b1, rfl, ?_⟩
      walk_at "g"
      refine ⟨b, a, es, ms, ds, ns, L, rfl, hB.same s1, hA.same s1, okB, okA, L0, LB, hLd, fun o2 H2 s2 h2 => ?_⟩
      walk_at "g"
      rw [oV_none]
      refine k _ H2 (s1.trans s2) ⟨fun z n => ⟨i1.mp rfl n, h2.is.mp z n⟩, fun z => h2.is.mpr fun n hn => (z n).mpr hn⟩
end
end Tr

namespace Tr
open PySem L2
/-- steps of a reading that are plain -/
local macro_rules | `(tactic| walk_at "x") => `(tactic| (refine' ⟨_, _, _, _, rfl, rfl, ?k1, ?k2, ?_⟩; (case k1 => exact SqT.of (by assumption)); (case k2 => exact rfl)))
local macro_rules | `(tactic| walk_at "g") => `(tactic| repeat (first | (refine ⟨_, rfl, ?_⟩) | (refine ⟨_, _, rfl, rfl, ?_⟩) | (refine ⟨_, _, rfl, ?_⟩) | (refine ⟨rfl, ?_⟩) | walk_at "x"))


/-! ### the law's bag -/
def bagK (q : Addr) (a : Nat) (d c f : Int) : List (Key × V) := [(.inr "cells", .ref q), (.inr "at", .int a), (.inr "digits", .int d), (.inr "count", .int c), (.inr "fold", .int f)]
/-- a bag at p, at most N numbers drawn -/
structure Bag (H : Hp) (p q : Addr) (N : Nat) : Prop where
  ex : ∃ (ns : List Int) (a : Nat) (d c f : Int), H p = some (.dK (bagK q a d c f)) ∧ H q = some (.lst (ns.map V.int)) ∧ 0 ≤ d ∧ 0 ≤ c ∧ c ≤ N ∧ 0 ≤ f ∧ f < 2147483587
section
variable {q : Addr} {a a' : Nat} {d c f x : Int} {H : Hp} {p : Addr}
theorem bg_cells (h : H p = some (.dK (bagK q a d c f))) : DGet H p (.str "cells") (some (.ref q)) := DGet.k (k := Sum.inr "cells") h
theorem bg_at (h : H p = some (.dK (bagK q a d c f))) : DGet H p (.str "at") (some (.int a)) := DGet.k (k := Sum.inr "at") h
theorem bg_digits (h : H p = some (.dK (bagK q a d c f))) : DGet H p (.str "digits") (some (.int d)) := DGet.k (k := Sum.inr "digits") h
theorem bg_count (h : H p = some (.dK (bagK q a d c f))) : DGet H p (.str "count") (some (.int c)) := DGet.k (k := Sum.inr "count") h
theorem bg_fold (h : H p = some (.dK (bagK q a d c f))) : DGet H p (.str "fold") (some (.int f)) := DGet.k (k := Sum.inr "fold") h
theorem bp_at (h : H p = some (.dK (bagK q a d c f))) : DPut H p (.str "at") (.int ((a : Int) + 1)) (upd H p (.dK (bagK q (a + 1) d c f))) := DPut.k (k := Sum.inr "at") h (by show 5 < sizeLine; decide)
theorem bp_digits (h : H p = some (.dK (bagK q a d c f))) : DPut H p (.str "digits") (.int x) (upd H p (.dK (bagK q a x c f))) := DPut.k (k := Sum.inr "digits") h (by show 5 < sizeLine; decide)
theorem bp_count (h : H p = some (.dK (bagK q a d c f))) : DPut H p (.str "count") (.int x) (upd H p (.dK (bagK q a d x f))) := DPut.k (k := Sum.inr "count") h (by show 5 < sizeLine; decide)
theorem bp_fold (h : H p = some (.dK (bagK q a d c f))) : DPut H p (.str "fold") (.int x) (upd H p (.dK (bagK q a d c x))) := DPut.k (k := Sum.inr "fold") h (by show 5 < sizeLine; decide)
theorem bag_new : mergeK [] (bagK q a d c f) = bagK q a d c f := rfl
end
section
variable {P : Program} {w : World} {K : PySem.W.Frag} {mg : Str → Option Value} {base : Heap}
def spBag (K : PySem.W.Frag) : Sp := fun vs H Q _ => ∃ (a : Addr) (ns : List Int), vs = [.ref a] ∧ SqL K H a (ns.map V.int) ∧ ∀ p q H', Same H H' → H p = none → Bag H' p q 0 → Q (.ref p) H'
theorem c__law_bag (T : Txt K mg) : Cal P w K mg base 1 "_law_bag" (spBag K) [] := by
  refine calN T.d__law_bag sc__law_bag (fun vs H Q E h => ?_) (fun _ _ _ _ _ _ us hl => match us, hl with | [_], _ => rfl) (fun f cdv A outer s H vs Q E hr h => ?_)
  · obtain ⟨a, ns, rfl, _⟩ := h
    rfl
  · obtain ⟨a, ns, rfl, hS, k⟩ := h
    refine ⟨_, (pss_cons (ps_set (i := 1) sc__law_bag.nd rfl (Or.inl rfl) pe_int)
      (pss_cons (ps_for PassesOwn.never rfl (pi_list (pv 0)) (pg_name (i := 2) sc__law_bag.nd rfl (Or.inl rfl)) (pss_one (ps_set (i := 1) sc__law_bag.nd rfl (Or.inl rfl) (pe_op op_mod (pe_callTy call_int1 (by rfl) T.b_int (by decide +kernel) (pa_cons (pe_op op_add (pe_op op_mul (pv 1) pe_int) (pv 2)) pa_nil)) pe_int))))
      (pss_one (ps_ret (pe_disp (pps_cons pe_str (pe_callTy call_list_of (by rfl) T.b_list (by decide +kernel) (pa_cons (pv 0) pa_nil)) (pps_cons pe_str pe_int (pps_cons pe_str pe_int (pps_cons pe_str pe_int (pps_cons pe_str (pv 1) pps_nil))))) rfl rfl (List.cons_ne_nil _ _) (by decide)))))), ?_⟩
    walk_at "g"
    refine ⟨⟨_, hS⟩, ?_⟩
    refine for_list (xs := ns.map V.int) (fun i σ H' => ∃ (f : Int) (v : Option V), σ = [some (.ref a), some (.int f), v] ∧ H' = H ∧ 0 ≤ f ∧ f < 1000000009) ⟨0, _, rfl, rfl, by omega, by omega⟩ ?_ ?_ ?_
    · rintro i σ H' _ ⟨f, v, rfl, rfl, _⟩
      exact hS
    · rintro i y σ H' hy ⟨f, v, rfl, rfl, f0, f1⟩
      rw [List.getElem?_map] at hy
      cases hn : ns[i]? with
      | none => rw [hn] at hy; cases hy
      | some n =>
        rw [hn] at hy
        cases hy
        walk_at "g"
        refine ⟨.inr ⟨by decide, by decide⟩, ?_⟩
        walk_at "g"
        refine .inl ⟨_, rfl, ?_⟩
        walk_at "g"
        refine ⟨by show (0 : Int) < 1000000009; decide, ?_⟩
        exact ⟨_, _, rfl, rfl, Int.emod_nonneg _ (by decide), Int.emod_lt_of_pos _ (by decide)⟩
    · rintro σ H' ⟨f, v, rfl, rfl, f0, f1⟩
      walk_at "g"
      intro p np
      walk_at "g"
      refine ⟨a, _, rfl, .inl ((same_upd np).seq hS), fun l nl => ?_⟩
      have npl : p ≠ l := ne_of_none (upd_same : upd H' p (.dK []) p = _) nl
      walk_at "g"
      refine ⟨by rw [upd_ne npl]; exact upd_same, bagK l 0 0 0 f, rfl, by show 5 ≤ 15; decide, ?_⟩
      refine k p l _ (((same_upd np).upd' nl).wr np) np ⟨ns, 0, 0, 0, f, upd_same, ?_, by omega, by omega, by omega, f0, by omega⟩
      rw [upd_ne npl.symm]
      exact upd_same
def spDraw : Sp := fun vs H Q _ => ∃ (p q : Addr) (lim : Int) (N : Nat), vs = [.ref p, .int lim] ∧ Bag H p q N ∧ N < 1000000 ∧ 0 < lim ∧ Bd 8000 lim ∧ ∀ v H', Kp p H H' → Bag H' p q (N + 1) → 0 ≤ v → v < lim → Q (.int v) H'
theorem c__law_draw (T : Txt K mg) : Cal P w K mg base 1 "_law_draw" spDraw [] := by
  refine calN T.d__law_draw sc__law_draw (fun vs H Q E h => ?_) (fun _ _ _ _ _ _ us hl => match us, hl with | [_, _], _ => rfl) (fun f cdv A outer s H vs Q E hr h => ?_)
  · obtain ⟨p, q, lim, N, rfl, _⟩ := h
    rfl
  · obtain ⟨p, q, lim, N, rfl, ⟨ns, a, d, c, fo, hp, hq, d0, c0, c1, f0, f1⟩, hN, l0, lB, k⟩ := h
    refine ⟨_, (pss_cons (ps_dput (hu_of hr) (pv 0) pe_str (pe_op op_add (pe_dget (hu_of hr) (pv 0) pe_str (fun _ _ => rfl)) pe_int) rfl)
      (C8.pss_cut (ps_if (PW.pt (pw_and (pt_cmpR op_eq (pe_dget (hu_of hr) (pv 0) pe_str (fun _ _ => rfl)) pe_int (nomark _)) (pw_and1 (pt_cmpR op_lt (pe_dget (hu_of hr) (pv 0) pe_str (fun _ _ => rfl)) (pe_callB call_len (by rfl) T.b_len (by decide +kernel) (pa_cons (pe_dget (hu_of hr) (pv 0) pe_str (fun _ _ => rfl)) pa_nil)) (nomark _))))) (pss_cons (ps_set (i := 2) sc__law_draw.nd rfl (Or.inl rfl) (pe_ix ix_list (pe_dget (hu_of hr) (pv 0) pe_str (fun _ _ => rfl)) (pe_dget (hu_of hr) (pv 0) pe_str (fun _ _ => rfl)) (fun _ _ => rfl)))
      (pss_cons (ps_dput (hu_of hr) (pv 0) pe_str (pe_op op_add (pe_dget (hu_of hr) (pv 0) pe_str (fun _ _ => rfl)) pe_int) rfl)
      (pss_one (ps_if (pt_cmpR op_ge (pv 2) (pe_op op_pow pe_int pe_int) (nomark _)) (pss_one (ps_dput (hu_of hr) (pv 0) pe_str (pe_op op_sub (pv 2) (pe_op op_pow pe_int pe_int)) rfl)) (pss_one (ps_dput (hu_of hr) (pv 0) pe_str (pe_op op_mod (pe_callTy call_int1 (by rfl) T.b_int (by decide +kernel) (pa_cons (pe_op op_add (pe_op op_mul (pe_dget (hu_of hr) (pv 0) pe_str (fun _ _ => rfl)) pe_int) (pv 2)) pa_nil)) pe_int) rfl)))))) pss_nil)
      (pss_cons (ps_if (pt_cmpR op_gt (pe_dget (hu_of hr) (pv 0) pe_str (fun _ _ => rfl)) pe_int (nomark _)) (pss_cons (ps_set (i := 3) sc__law_draw.nd rfl (Or.inl rfl) (pe_op op_mod (pe_callTy call_int1 (by rfl) T.b_int (by decide +kernel) (pa_cons (pe_dget (hu_of hr) (pv 0) pe_str (fun _ _ => rfl)) pa_nil)) (pv 1)))
      (pss_cons (ps_dput (hu_of hr) (pv 0) pe_str (pe_op op_fdivW (pe_dget (hu_of hr) (pv 0) pe_str (fun _ _ => rfl)) (pv 1)) rfl)
      (pss_one (ps_ret (pv 3))))) pss_nil)
      (pss_cons (ps_set (i := 4) sc__law_draw.nd rfl (Or.inl rfl) (pe_op op_add (pe_op op_add (pe_dget (hu_of hr) (pv 0) pe_str (fun _ _ => rfl)) (pe_op op_mul (pe_dget (hu_of hr) (pv 0) pe_str (fun _ _ => rfl)) pe_int)) pe_int))
      (pss_one (ps_ret (pe_op op_mod (pe_op op_fdivW (pe_callTy call_int1 (by rfl) T.b_int (by decide +kernel) (pa_cons (pe_op op_mod (pe_op op_pow (pv 4) pe_int) pe_int) pa_nil)) pe_int) (pv 1)))))))), ?_⟩
    have nqp : q ≠ p := ne_of hq hp (by intro z; cases z)
    walk_at "g"
    refine ⟨p, _, rfl, bg_count hp, ?_⟩
    walk_at "g"
    refine ⟨p, _, rfl, bp_count hp, ?_⟩
    obtain ⟨H1, e1⟩ : ∃ H1, H1 = upd H p (.dK (bagK q a d (c + 1) fo)) := ⟨_, rfl⟩
    rw [← e1]
    have kp1 : Kp p H H1 := by rw [e1]; exact kp_upd p H _
    have hp1 : H1 p = some (.dK (bagK q a d (c + 1) fo)) := by rw [e1]; exact upd_same
    have hq1 : H1 q = some (.lst (ns.map V.int)) := kp1 _ _ hq nqp
    refine ⟨fun σ' H2 => ∃ (v : Option V) (a2 : Nat) (d2 f2 : Int), σ' = [some (.ref p), some (.int lim), v, none, none] ∧ Kp p H H2 ∧ H2 p = some (.dK (bagK q a2 d2 (c + 1) f2)) ∧ H2 q = some (.lst (ns.map V.int)) ∧ 0 ≤ d2 ∧ 0 ≤ f2 ∧ f2 < 2147483587, ?_, ?_⟩
    · walk_at "g"
      refine ⟨p, _, rfl, bg_digits hp1, ?_⟩
      walk_at "g"
      have stay : (fun σ' H2 => ∃ (v : Option V) (a2 : Nat) (d2 f2 : Int), σ' = [some (.ref p), some (.int lim), v, none, none] ∧ Kp p H H2 ∧ H2 p = some (.dK (bagK q a2 d2 (c + 1) f2)) ∧ H2 q = some (.lst (ns.map V.int)) ∧ 0 ≤ d2 ∧ 0 ≤ f2 ∧ f2 < 2147483587) [some (.ref p), some (.int lim), none, none, none] H1 :=
        ⟨_, a, d, fo, rfl, kp1, hp1, hq1, d0, f0, f1⟩
      refine iteB (fun c2 => ?_) (fun c2 => ?_)
      · walk_at "g"
        refine ⟨p, _, rfl, bg_at hp1, ?_⟩
        walk_at "g"
        refine ⟨p, _, rfl, bg_cells hp1, ?_⟩
        refine ⟨_, _, rfl, .inl ⟨_, SqL.of hq1, rfl⟩, ?_⟩
        walk_at "g"
        rw [List.length_map]
        refine iteB (fun c3 => ?_) (fun c3 => ?_)
        · have ha : a < ns.length := by have := of_decide_eq_true c3; omega
          walk_at "g"
          refine ⟨p, _, rfl, bg_cells hp1, ?_⟩
          walk_at "g"
          refine ⟨p, _, rfl, bg_at hp1, ?_⟩
          refine ⟨q, _, (a : Int), .int ns[a], rfl, rfl, SqL.of hq1, atI_nat (j := a) (by rw [List.getElem?_map, List.getElem?_eq_getElem ha] <;> rfl), ?_⟩
          generalize ns[a] = z
          walk_at "g"
          refine ⟨p, _, rfl, bg_at hp1, ?_⟩
          walk_at "g"
          refine ⟨p, _, rfl, bp_at hp1, ?_⟩
          obtain ⟨H3, e3⟩ : ∃ H3, H3 = upd H1 p (.dK (bagK q (a + 1) d (c + 1) fo)) := ⟨_, rfl⟩
          rw [← e3]
          have kp3 : Kp p H H3 := by rw [e3]; exact kp1.trans (kp_upd p H1 _)
          have hp3 : H3 p = some (.dK (bagK q (a + 1) d (c + 1) fo)) := by rw [e3]; exact upd_same
          have hq3 : H3 q = some (.lst (ns.map V.int)) := kp3 _ _ hq nqp
          walk_at "g"
          refine ⟨⟨by decide, by decide, by decide⟩, ?_⟩
          walk_at "g"
          refine iteB (fun c4 => ?_) (fun c4 => ?_)
          · walk_at "g"
            refine ⟨⟨by decide, by decide, by decide⟩, ?_⟩
            walk_at "g"
            have h4 := of_decide_eq_true c4
            exact ⟨p, _, rfl, bp_digits hp3, _, a + 1, _, fo, rfl, kp3.trans (kp_upd p H3 _), upd_same, by rw [upd_ne nqp]; exact hq3, by omega, f0, f1⟩
          · walk_at "g"
            refine ⟨p, _, rfl, bg_fold hp3, ?_⟩
            walk_at "g"
            refine ⟨.inr ⟨by decide, by decide⟩, ?_⟩
            walk_at "g"
            refine .inl ⟨_, rfl, ?_⟩
            walk_at "g"
            refine ⟨by show (0 : Int) < 2147483587; decide, ?_⟩
            walk_at "g"
            exact ⟨p, _, rfl, bp_fold hp3, _, a + 1, d, _, rfl, kp3.trans (kp_upd p H3 _), upd_same, by rw [upd_ne nqp]; exact hq3, d0, Int.emod_nonneg _ (by decide), Int.emod_lt_of_pos _ (by decide)⟩
        · exact stay
      · exact stay
    · rintro σ' H2 ⟨v, a2, d2, f2, rfl, kp2, hp2, hq2, d20, f20, f21⟩
      walk_at "g"
      refine ⟨p, _, rfl, bg_digits hp2, ?_⟩
      walk_at "g"
      refine iteB (fun c2 => ?_) (fun c2 => ?_)
      · have h2 := of_decide_eq_true c2
        walk_at "g"
        refine ⟨p, _, rfl, bg_digits hp2, ?_⟩
        refine .inl ⟨_, rfl, ?_⟩
        walk_at "g"
        refine ⟨l0, ?_⟩
        walk_at "g"
        refine ⟨p, _, rfl, bg_digits hp2, ?_⟩
        walk_at "g"
        refine ⟨cdivw l0 lB (by omega), ?_⟩
        walk_at "g"
        refine ⟨p, _, rfl, bp_digits hp2, ?_⟩
        walk_at "g"
        exact k _ _ (kp2.trans (kp_upd p H2 _)) ⟨ns, a2, _, c + 1, f2, upd_same, by rw [upd_ne nqp]; exact hq2, Int.ediv_nonneg d20 (Int.le_of_lt l0), by omega, by omega, f20, f21⟩ (Int.emod_nonneg _ (by omega)) (Int.emod_lt_of_pos _ l0)
      · walk_at "g"
        refine ⟨p, _, rfl, bg_fold hp2, ?_⟩
        walk_at "g"
        refine ⟨p, _, rfl, bg_count hp2, ?_⟩
        walk_at "g"
        refine ⟨.inr ⟨by decide, by decide⟩, ?_⟩
        walk_at "g"
        refine ⟨⟨by decide, by decide, by omega⟩, ?_⟩
        walk_at "g"
        refine ⟨by show (0 : Int) < 2305843009213693951; decide, ?_⟩
        refine .inl ⟨_, rfl, ?_⟩
        walk_at "g"
        refine ⟨⟨by decide, by decide⟩, ?_⟩
        walk_at "g"
        refine ⟨l0, ?_⟩
        exact k _ H2 kp2 ⟨ns, a2, d2, c + 1, f2, hp2, hq2, d20, by omega, by omega, f20, f21⟩ (Int.emod_nonneg _ (by omega)) (Int.emod_lt_of_pos _ l0)
end
end Tr

namespace Tr
open PySem L2
/-- steps of a reading that are plain -/
local macro_rules | `(tactic| walk_at "x") => `(tactic| (refine' ⟨_, _, _, _, rfl, rfl, ?k1, ?k2, ?_⟩; (case k1 => exact SqT.of (by assumption)); (case k2 => exact rfl)))
local macro_rules | `(tactic| walk_at "g") => `(tactic| repeat (first | (refine ⟨_, rfl, ?_⟩) | (refine ⟨_, _, rfl, rfl, ?_⟩) | (refine ⟨_, _, rfl, ?_⟩) | (refine ⟨rfl, ?_⟩) | walk_at "x"))


/-! ### the law's pairs -/
theorem Kp.wr {p l : Addr} {H H' : Hp} {o : HO} (k : Kp p H H') (h : H l = none) : Kp p H (upd H' l o) := fun b u e n => by
  rw [upd_ne (ne_of_none e h)]
  exact k b u e n
theorem P2.kpB {p : Addr} {H H' : Hp} {kvs : List (Key × V)} {ts : List Addr} {cs : List Cl} (k : Kp p H H') (hp : H p = some (.dK kvs)) (h : P2 (PrT H) ts cs) : P2 (PrT H') ts cs :=
  h.mono fun t c e => k _ _ e (ne_of e hp (by intro z; cases z))
theorem PL.kpB {p l : Addr} {H H' : Hp} {kvs : List (Key × V)} {cs : List Cl} (k : Kp p H H') (hp : H p = some (.dK kvs)) (h : PL H l cs) : PL H' l cs :=
  let ⟨ts, a, b⟩ := h
  ⟨ts, k _ _ a (ne_of a hp (by intro z; cases z)), b.kpB k hp⟩
theorem Bag.at_ {H : Hp} {p q : Addr} {N : Nat} (h : Bag H p q N) : ∃ kvs xs, H p = some (.dK kvs) ∧ H q = some (.lst xs) :=
  let ⟨_, _, _, _, _, a, b, _⟩ := h.ex
  ⟨_, _, a, b⟩
theorem Bag.mono {H : Hp} {p q : Addr} {N M : Nat} (h : Bag H p q N) (l : N ≤ M) : Bag H p q M :=
  let ⟨ns, a, d, c, f, h1, h2, h3, h4, h5, r⟩ := h.ex
  ⟨ns, a, d, c, f, h1, h2, h3, h4, by omega, r⟩
theorem Bag.keep {H H' : Hp} {p q : Addr} {N : Nat} (h : Bag H p q N) (hp : H' p = H p) (hq : H' q = H q) : Bag H' p q N :=
  let ⟨ns, a, d, c, f, h1, h2, r⟩ := h.ex
  ⟨ns, a, d, c, f, hp.trans h1, hq.trans h2, r⟩
theorem Bag.same {H H' : Hp} {p q : Addr} {N : Nat} (s : Same H H') (h : Bag H p q N) : Bag H' p q N :=
  let ⟨ns, a, d, c, f, h1, h2, r⟩ := h.ex
  ⟨ns, a, d, c, f, s _ _ h1, s _ _ h2, r⟩
theorem Bag.wr {H : Hp} {p q l : Addr} {N : Nat} {o : HO} (h : Bag H p q N) (h1 : l ≠ p) (h2 : l ≠ q) : Bag (upd H l o) p q N := h.keep (upd_ne h1.symm) (upd_ne h2.symm)
end Tr

namespace Tr
open PySem L2
/-- steps of a reading that are plain -/
local macro_rules | `(tactic| walk_at "x") => `(tactic| (refine' ⟨_, _, _, _, rfl, rfl, ?k1, ?k2, ?_⟩; (case k1 => exact SqT.of (by assumption)); (case k2 => exact rfl)))
local macro_rules | `(tactic| walk_at "g") => `(tactic| repeat (first | (refine ⟨_, rfl, ?_⟩) | (refine ⟨_, _, rfl, rfl, ?_⟩) | (refine ⟨_, _, rfl, ?_⟩) | (refine ⟨rfl, ?_⟩) | walk_at "x"))


section
variable {P : Program} {w : World} {K : PySem.W.Frag} {mg : Str → Option Value} {base : Heap}
/-- a pair has the number -/
def hasP (c : Cl) (n : Int) : Bool := if c.2 = 0 then decide (n = c.1) else decide ((n - c.1) % c.2 = 0)
def spHasP : Sp := fun vs H Q _ => ∃ (l : Addr) (n : Int) (cs : List Cl), vs = [.ref l, .int n] ∧ PL H l cs ∧ (∀ c ∈ cs, 0 ≤ c.2) ∧ cs.length ≤ 100000 ∧ ∀ H', Same H H' → Q (.bl (cs.any fun c => hasP c n)) H'
theorem c__law_has (T : Txt K mg) : Cal P w K mg base 1 "_law_has" spHasP [] := by
  refine calN T.d__law_has sc__law_has (fun vs H Q E h => ?_) (fun _ _ _ _ _ _ us hl => match us, hl with | [_, _], _ => rfl) (fun f cdv A outer s H vs Q E hr h => ?_)
  · obtain ⟨l, n, cs, rfl, _⟩ := h
    rfl
  · obtain ⟨l, n, cs, rfl, ⟨ts, hl, pp⟩, hc, hlen, k⟩ := h
    refine ⟨_, (pss_one (ps_ret (pe_callB (cr_any rfl) (by rfl) T.b_any (by decide +kernel) (pa_cons (pe_lc (own := [("_law_r", 2), ("_law_m", 3)]) (g := gTup K 2 (gCons (gName 2) (gCons (gName 3) gNil))) rfl sc__law_has.nd (pi_listK K (pv 0)) (blkOk_by (own := [("_law_r", 2), ("_law_m", 3)]) (N := ["_law_pairs", "_law_n", "_law_r", "_law_m"]) (sc := defScope s__law_has) (by decide +kernel)) (fun _ _ _ _ _ => (pg_tup rfl (pgs_cons (pg_name (i := 2) sc__law_has.nd rfl (Or.inl rfl)) (pgs_cons (pg_name (i := 3) sc__law_has.nd rfl (Or.inl rfl)) pgs_nil)))) (fun _ _ _ _ _ => pts_nil) (fun _ _ _ _ _ => (pe_ifExp (pt_cmpR op_eq (pv 3) pe_int (nomark _)) (pe_cmpR op_eq (pv 1) (pv 2) (nomark _)) (pe_cmpR op_eq (pe_op op_mod (pe_callTy call_int1 (by rfl) T.b_int (by decide +kernel) (pa_cons (pe_op op_sub (pv 1) (pv 2)) pa_nil)) (pv 3)) pe_int (nomark _))))) pa_nil)))), ?_⟩
    walk_at "g"
    refine ⟨⟨_, SqL.of hl⟩, fun D nD => ?_⟩
    refine lc_pairs (fun _ => true) (fun y c _ => y = .bl (hasP c n)) (fun _ _ _ _ _ _ _ e => e) nD (SqL.of hl) pp hlen (fun _ _ => rfl) (fun c _ H Q _ q => q H (Same.refl H)) ?_ ?_
    · intro c hcm _ H2 Q2 s2 q
      walk_at "g"
      have h0 := hc c hcm
      unfold hasP at q
      refine iteB (fun c1 => ?_) (fun c1 => ?_)
      · have e := of_dI c1
        rw [if_pos e] at q
        walk_at "g"
        have e2 := q (.bl (decide (n = c.1))) H2 (Same.refl _) rfl
        rw [← dI] at e2
        exact e2
      · have e := of_dI' c1
        rw [if_neg e] at q
        walk_at "g"
        refine .inl ⟨_, rfl, ?_⟩
        walk_at "g"
        refine ⟨by omega, ?_⟩
        walk_at "g"
        have e2 := q (.bl (decide ((n - c.1) % c.2 = 0))) H2 (Same.refl _) rfl
        rw [← dI] at e2
        exact e2
    · intro ys H2 s2 hD2 py
      rw [filter_all] at py
      have ey := py.eq_map
      walk_at "g"
      refine ⟨D, cs.map fun c => hasP c n, rfl, SqL.of (by rw [hD2, ey, List.map_map]; rfl), ?_⟩
      have e : (cs.map fun c => hasP c n).any id = cs.any fun c => hasP c n := by
        rw [List.any_map]
        rfl
      rw [e]
      exact k H2 s2
end
end Tr

/-! # A comprehension over a range that draws (T12 alone). -/
namespace Tr
open PySem L2 TL
/-- steps of a reading that are plain -/
local macro_rules | `(tactic| walk_at "x") => `(tactic| (refine' ⟨_, _, _, _, rfl, rfl, ?k1, ?k2, ?_⟩; (case k1 => exact SqT.of (by assumption)); (case k2 => exact rfl)))
local macro_rules | `(tactic| walk_at "g") => `(tactic| repeat (first | (refine ⟨_, rfl, ?_⟩) | (refine ⟨_, _, rfl, rfl, ?_⟩) | (refine ⟨_, _, rfl, ?_⟩) | (refine ⟨rfl, ?_⟩) | walk_at "x"))


theorem lc_rngJ {lo : Int} {n : Nat} {i1 : Nat} {tt : TT} {te : TE} {vs : List Nat} {σ : L2.St} {H1 : Hp} {D p q : Addr} {N d : Nat} {Qd : Hp → Prop} (R : V → Nat → Hp → Prop)
    (hR1 : ∀ y c H H' kvs, H p = some (.dK kvs) → Kp p H H' → R y c H → R y c H') (hR2 : ∀ y c H H' acc, H D = some (.lst acc) → Kp D H H' → R y c H → R y c H') (hD : H1 D = none) (hB : Bag H1 p q N) (hsz : n ≤ 100000)
    (hw : ∀ x, wipe ((wipe σ vs).set i1 x) vs = wipe σ vs) (ht : ∀ σ H Q, Q true H → tt σ H Q)
    (he : ∀ i, i < n → ∀ H Q M, Kp p H1 H → Bag H p q M → M ≤ N + d * n → (∃ acc, H D = some (.lst acc)) → (∀ y H', Kp p H H' → Bag H' p q (M + d) → R y i H' → Q y H') → te ((wipe σ vs).set i1 (some (.int (lo + i)))) H Q)
    (hd : ∀ ys H, Kp p H1 H → Bag H p q (N + d * n) → H D = some (.lst ys) → P2 (fun y c => R y c H) ys (List.range n) → Qd H) : LcG (Itr lo n) (gName i1) tt te vs σ H1 D Qd := by
  obtain ⟨kvs, cells, hp, hq⟩ := hB.at_
  have npD : p ≠ D := ne_of_none hp hD
  have nqD : q ≠ D := ne_of_none hq hD
  refine lc_range (fun i H => Kp p H1 H ∧ Bag H p q (N + d * i) ∧ ∃ ys, H D = some (.lst ys) ∧ P2 (fun y c => R y c H) ys (List.range i)) ⟨(same_upd hD).kp, hB.wr npD.symm nqD.symm, [], upd_same, .nil⟩ ?_ ?_
  · rintro i H hi ⟨s, hBi, ys, hy, py⟩
    have ll : ys.length ≤ 100000 := by
      have h1 := py.len
      rw [List.length_range] at h1
      omega
    refine ⟨hw _, ht _ _ _ ?_⟩
    rw [if_pos rfl]
    obtain ⟨kvs2, cells2, hp2, hq2⟩ := hBi.at_
    have : N + d * i ≤ N + d * n := Nat.add_le_add_left (Nat.mul_le_mul_left d (Nat.le_of_lt hi)) N
    refine he i hi H _ _ s hBi this ⟨_, hy⟩ fun y H' s' hB' r' => ⟨ys, s' _ _ hy npD.symm, small_app (Nat.le_refl _) ll, (s.trans s').wr hD, ?_, ys ++ [y], upd_same, ?_⟩
    · rw [Nat.mul_succ, ← Nat.add_assoc]
      exact hB'.wr npD.symm nqD.symm
    · rw [List.range_succ]
      have hy' := s' _ _ hy npD.symm
      exact (py.mono fun v b rb => hR2 v b H' _ _ hy' (kp_upd D H' _) (hR1 v b H H' _ hp2 s' rb)).snoc (hR2 y i H' _ _ hy' (kp_upd D H' _) r')
  · rintro H ⟨s, hBi, ys, hy, py⟩
    exact hd ys H s hBi hy py
end Tr

namespace Tr
open PySem L2
/-! ### what a Numbers made of pairs holds -/
def hasC (cs : List Cl) (n : Int) : Bool := cs.any fun c => hasP c n
theorem hasP_iff {c : Cl} {n : Int} : hasP c n = true ↔ c.2 ∣ n - c.1 := by
  unfold hasP
  by_cases h : c.2 = 0
  · rw [if_pos h, decide_eq_true_eq, h, Int.zero_dvd]
    omega
  · rw [if_neg h, decide_eq_true_eq]
    exact ⟨Int.dvd_of_emod_eq_zero, Int.emod_eq_zero_of_dvd⟩
theorem hasC_iff {cs : List Cl} {n : Int} : hasC cs n = true ↔ cov cs n := by
  unfold hasC cov
  rw [List.any_eq_true]
  constructor
  · rintro ⟨c, hc, e⟩
    exact ⟨c, hc, hasP_iff.mp e⟩
  · rintro ⟨c, hc, e⟩
    exact ⟨c, hc, hasP_iff.mpr e⟩
section
variable {cs ds : List Cl} {ns : List Int}
theorem Num.ok (h : Num cs ds ns) (hc : ∀ c ∈ cs, 0 ≤ c.2 ∧ Bd 8000 c.2) (hl : cs.length < 64) : Ok ds ns := by
  refine ⟨fun d hd => ?_, ?_, Nat.lt_of_le_of_lt h.len hl⟩
  · obtain ⟨p1, p2, p3⟩ := h.tidy.pos (fun c hcm => of_decide_eq_true (List.mem_filter.mp hcm).2) d hd
    obtain ⟨c, hcm, e1, _⟩ := h.tidy.from_ d hd
    have b : Bd 8000 d.2 := by rw [e1]; exact (hc c (List.mem_filter.mp hcm).1).2
    exact ⟨p1, b, p2, b.le (by omega)⟩
  · exact Nat.lt_of_le_of_lt (Nat.le_trans h.tidy.len (List.length_filter_le _ _)) hl
theorem Num.has (h : Num cs ds ns) (hc : ∀ c ∈ cs, 0 ≤ c.2) (n : Int) : has ds ns n ↔ cov cs n := by
  unfold Tr.has
  rw [h.tidy.cov n]
  constructor
  · rintro (k | ⟨c, hcm, d⟩)
    · exact ⟨(n, 0), ((h.mem n).mp k).1, by rw [Int.sub_self]; exact Int.dvd_zero _⟩
    · exact ⟨c, (List.mem_filter.mp hcm).1, d⟩
  · rintro ⟨c, hcm, d⟩
    rcases Int.lt_trichotomy 0 c.2 with k | k | k
    · exact .inr ⟨c, List.mem_filter.mpr ⟨hcm, decide_eq_true k⟩, d⟩
    · rw [← k, Int.zero_dvd] at d
      have e : c = (n, 0) := by
        obtain ⟨c1, c2⟩ := c
        simp only at k d
        rw [← k]
        have : c1 = n := by omega
        rw [this]
      by_cases z : cov ds n
      · exact .inr ((h.tidy.cov n).mp z)
      · exact .inl ((h.mem n).mpr ⟨by rw [← e]; exact hcm, z⟩)
    · have := hc c hcm
      omega
theorem Num.hasB (h : Num cs ds ns) (hc : ∀ c ∈ cs, 0 ≤ c.2) (n : Int) : hasB ds ns n = hasC cs n := by
  rw [Bool.eq_iff_iff, hasB_iff, hasC_iff]
  exact h.has hc n
theorem Num.dvd (h : Num cs ds ns) {L : Int} (hL : ∀ c ∈ cs, 0 < c.2 → c.2 ∣ L) : ∀ d ∈ ds, d.2 ∣ L := fun d hd => by
  obtain ⟨c, hcm, e1, _⟩ := h.tidy.from_ d hd
  obtain ⟨h1, h2⟩ := List.mem_filter.mp hcm
  rw [e1]
  exact hL c h1 (of_decide_eq_true h2)
theorem Num.some_ (h : Num cs ds ns) (hc : ∀ c ∈ cs, 0 ≤ c.2) : (decide (0 < ds.length) || decide (0 < ns.length)) = !cs.isEmpty := by
  cases cs with
  | nil =>
    have e : ds = [] := h.tidy.nil
    have e2 : ns = [] := List.eq_nil_of_length_eq_zero (by have := h.len; simp at this; simp [this])
    rw [e, e2]
    rfl
  | cons c r =>
    show _ = true
    rw [Bool.or_eq_true, decide_eq_true_eq, decide_eq_true_eq]
    have := (h.has hc c.1).mpr ⟨c, List.mem_cons_self, by rw [Int.sub_self]; exact Int.dvd_zero _⟩
    rcases this with k | ⟨d, hd, _⟩
    · exact .inr (List.length_pos_of_mem k)
    · exact .inl (List.length_pos_of_mem hd)
theorem Num.fin (h : Num cs ds ns) : decide (ds.length = 0) = (cs.filter fun c => decide (0 < c.2)).isEmpty := by
  have t := h.tidy
  cases e : cs.filter fun c => decide (0 < c.2) with
  | nil =>
    rw [e] at t
    rw [t.nil]
    rfl
  | cons c r =>
    rw [e] at t
    have := t.ne (List.cons_ne_nil _ _)
    cases ds with
    | nil => exact absurd rfl this
    | cons d ds => rfl
end
/-! ### lists of pairs as data -/
def pairD (c : Cl) : PyData := .tuple [.int c.1, .int c.2]
theorem lay_pairs : ∀ cs : List Cl, PyData.canLayAll0 (cs.map pairD) = true
  | [] => rfl
  | c :: cs => by
    show (true && PyData.canLayAll0 (cs.map pairD)) = true
    rw [lay_pairs cs]
    rfl
theorem depth_pairs : ∀ cs : List Cl, PyData.depthAll (cs.map pairD) ≤ 1
  | [] => Nat.zero_le _
  | c :: cs => by
    have h := depth_pairs cs
    show max 1 (PyData.depthAll (cs.map pairD)) ≤ 1
    omega
theorem shaped_pairs (cs : List Cl) : SeqAt.shaped (.list (cs.map pairD)) = true := by
  unfold SeqAt.shaped
  rw [Bool.and_eq_true, decide_eq_true_eq]
  refine ⟨lay_pairs cs, ?_⟩
  have h := depth_pairs cs
  show PyData.depthAll (cs.map pairD) + 1 ≤ 64
  omega
theorem dp_pairs {K : PySem.W.Frag} {H : Hp} {l : Addr} {cs : List Cl} (h : PL H l cs) : Dp K H (.ref l) (.list (cs.map pairD)) := by
  obtain ⟨ts, hl, pp⟩ := h
  refine .lst (SqL.of hl) ?_
  clear hl
  induction pp with
  | nil => exact .nil
  | cons r _ ih => exact .cons (.tup (SqT.of r) (.cons (.int _) (.cons (.int _) .nil))) ih
theorem eqv_nil (ds : List PyData) : PyData.eqv (.list ds) (.list []) = ds.isEmpty := by
  cases ds <;> rfl
theorem lay_ints : ∀ ns : List Int, PyData.canLayAll0 (ns.map PyData.int) = true
  | [] => rfl
  | n :: ns => by
    show (true && PyData.canLayAll0 (ns.map PyData.int)) = true
    rw [lay_ints ns]
    rfl
theorem depth_ints : ∀ ns : List Int, PyData.depthAll (ns.map PyData.int) ≤ 0
  | [] => Nat.zero_le _
  | c :: cs => by
    have h := depth_ints cs
    show max 0 (PyData.depthAll (cs.map PyData.int)) ≤ 0
    omega
theorem shaped_ints (ns : List Int) : SeqAt.shaped (.list (ns.map PyData.int)) = true := by
  unfold SeqAt.shaped
  rw [Bool.and_eq_true, decide_eq_true_eq]
  refine ⟨lay_ints ns, ?_⟩
  have h := depth_ints ns
  show PyData.depthAll (ns.map PyData.int) + 1 ≤ 64
  omega
theorem dp_ints {K : PySem.W.Frag} {H : Hp} {l : Addr} {ns : List Int} (hl : SqL K H l (ns.map V.int)) : Dp K H (.ref l) (.list (ns.map PyData.int)) := by
  refine .lst hl ?_
  clear hl
  induction ns with
  | nil => exact .nil
  | cons n ns ih => exact .cons (.int _) ih
end Tr

namespace Tr
open PySem L2
/-! ### moduli that divide a number; a window tells all -/
/-- pairs whose moduli divide L, or are 0 -/
def Dv (L : Int) (cs : List Cl) : Prop := ∀ c ∈ cs, c.2 = 0 ∨ (0 < c.2 ∧ c.2 ∣ L)
theorem Dv.nn {L : Int} {cs : List Cl} (h : Dv L cs) : ∀ c ∈ cs, 0 ≤ c.2 := fun c hc => by
  rcases h c hc with e | ⟨e, _⟩ <;> omega
theorem Dv.bd {L : Int} {cs : List Cl} (h : Dv L cs) (h0 : 0 < L) (hb : Bd 6000 L) : ∀ c ∈ cs, 0 ≤ c.2 ∧ Bd 8000 c.2 := fun c hc => by
  refine ⟨h.nn c hc, ?_⟩
  rcases h c hc with e | ⟨e, d⟩
  · rw [e]
    exact Nat.two_pow_pos 8000
  · exact (hb.mono (by decide)).le (by have := Int.le_of_dvd h0 d; omega)
theorem Dv.app {L : Int} {cs ds : List Cl} (h : Dv L cs) (k : Dv L ds) : Dv L (cs ++ ds) := fun c hc => (List.mem_append.mp hc).elim (h c) (k c)
theorem Dv.mono {L M : Int} {cs : List Cl} (h : Dv L cs) (d : L ∣ M) : Dv M cs := fun c hc => (h c hc).imp id fun ⟨a, b⟩ => ⟨a, Int.dvd_trans b d⟩
theorem Dv.sub {L : Int} {cs ds : List Cl} (h : Dv L cs) (s : ∀ c ∈ ds, c ∈ cs) : Dv L ds := fun c hc => h c (s c hc)
theorem cut_drop (xs : List V) (k : Nat) : cutV xs (some (k : Int)) none = xs.drop k := by
  unfold cutV
  rw [HT.sIx_none, HT.sIx_nat]
  rcases Nat.le_total k xs.length with h | h
  · rw [Nat.min_eq_left h]
    refine List.take_of_length_le ?_
    rw [List.length_drop]
    exact Nat.le_refl _
  · rw [Nat.min_eq_right h, Nat.sub_self, List.take_zero, List.drop_of_length_le h]
/-- a class of the pairs has the number -/
def posB (cs : List Cl) (n : Int) : Bool := cs.any fun c => decide (0 < c.2) && decide ((n - c.1) % c.2 = 0)
/-! ### the window is enough -/
theorem posB_iff {cs : List Cl} {n : Int} : posB cs n = true ↔ ∃ c ∈ cs, 0 < c.2 ∧ c.2 ∣ n - c.1 := by
  unfold posB
  rw [List.any_eq_true]
  constructor
  · rintro ⟨c, hc, e⟩
    obtain ⟨h1, h2⟩ := Bool.and_eq_true_iff.mp e
    exact ⟨c, hc, of_decide_eq_true h1, Int.dvd_of_emod_eq_zero (of_decide_eq_true h2)⟩
  · rintro ⟨c, hc, h1, h2⟩
    exact ⟨c, hc, Bool.and_eq_true_iff.mpr ⟨decide_eq_true h1, decide_eq_true (Int.emod_eq_zero_of_dvd h2)⟩⟩
/-- the classes repeat by L -/
theorem posB_mod {L : Int} {cs : List Cl} (h : Dv L cs) (n t : Int) : posB cs (n + L * t) = posB cs n := by
  rw [Bool.eq_iff_iff, posB_iff, posB_iff]
  have one : ∀ c ∈ cs, 0 < c.2 → (c.2 ∣ n + L * t - c.1 ↔ c.2 ∣ n - c.1) := fun c hc h0 => by
    have d : c.2 ∣ L := by
      rcases h c hc with e | ⟨_, d⟩
      · omega
      · exact d
    have d2 : c.2 ∣ L * t := Int.dvd_trans d (Int.dvd_mul_right _ _)
    have e1 : n + L * t - c.1 = (n - c.1) + L * t := by omega
    have e2 : n - c.1 = (n + L * t - c.1) - L * t := by omega
    constructor
    · intro q
      rw [e2]
      exact Int.dvd_sub q d2
    · intro q
      rw [e1]
      exact Int.dvd_add q d2
  constructor
  · rintro ⟨c, hc, h0, d⟩
    exact ⟨c, hc, h0, (one c hc h0).mp d⟩
  · rintro ⟨c, hc, h0, d⟩
    exact ⟨c, hc, h0, (one c hc h0).mpr d⟩
theorem cov_pos {cs : List Cl} (h : ∀ c ∈ cs, 0 ≤ c.2) {n : Int} : cov cs n ↔ posB cs n = true ∨ (n, 0) ∈ cs := by
  rw [posB_iff]
  constructor
  · rintro ⟨c, hc, d⟩
    by_cases z : c.2 = 0
    · refine .inr ?_
      rw [z, Int.zero_dvd] at d
      have : c = (n, 0) := by
        obtain ⟨c1, c2⟩ := c
        simp only at z d
        rw [z, show c1 = n by omega]
      rw [← this]
      exact hc
    · exact .inl ⟨c, hc, by have := h c hc; omega, d⟩
  · rintro (⟨c, hc, _, d⟩ | h)
    · exact ⟨c, hc, d⟩
    · exact ⟨_, h, by rw [Int.sub_self]; exact Int.dvd_zero _⟩
/-- beyond all singles there are classes alone -/
theorem beyond {cs : List Cl} (h : ∀ c ∈ cs, 0 ≤ c.2) : ∃ B : Int, ∀ n, B ≤ n → cov cs n → posB cs n = true := by
  have : ∃ B : Int, ∀ n, (n, 0) ∈ cs → n < B := by
    clear h
    induction cs with
    | nil => exact ⟨0, fun n hn => by cases hn⟩
    | cons c cs ih =>
      obtain ⟨B, hB⟩ := ih
      refine ⟨max B (c.1 + 1), fun n hn => ?_⟩
      rcases List.mem_cons.mp hn with e | hn
      · have : c.1 = n := by rw [← e]
        omega
      · have := hB n hn
        omega
  obtain ⟨B, hB⟩ := this
  refine ⟨B, fun n hn hc => ?_⟩
  rcases (cov_pos h).mp hc with k | k
  · exact k
  · have := hB n k
    omega
theorem window {L : Int} (L0 : 0 < L) {cs ds : List Cl} (hc : Dv L cs) (hd : Dv L ds) :
    ((∀ n : Nat, (n : Int) < L → posB cs n = true → posB ds n = true) ∧ ∀ c ∈ cs, c.2 = 0 → hasC ds c.1 = true) ↔ ∀ n, cov cs n → cov ds n := by
  constructor
  · rintro ⟨h1, h2⟩ n hn
    rcases (cov_pos hc.nn).mp hn with k | k
    · have e := Int.emod_add_mul_ediv n L
      have m0 := Int.emod_nonneg n (show L ≠ 0 by omega)
      have m1 := Int.emod_lt_of_pos n L0
      have e2 : n = (((n % L).toNat : Nat) : Int) + L * (n / L) := by omega
      rw [e2, posB_mod hc] at k
      have := h1 (n % L).toNat (by omega) k
      rw [cov_pos hd.nn]
      refine .inl ?_
      rw [e2, posB_mod hd]
      exact this
    · exact hasC_iff.mp (h2 _ k rfl)
  · intro h
    refine ⟨fun n hn hp => ?_, fun c hcm h0 => hasC_iff.mpr (h _ ⟨c, hcm, by rw [Int.sub_self]; exact Int.dvd_zero _⟩)⟩
    obtain ⟨B, hB⟩ := beyond hd.nn
    have t0 : B ≤ n + L * (B.toNat : Int) := by
      have : (B.toNat : Int) ≤ L * (B.toNat : Int) := by
        have := Int.mul_le_mul_of_nonneg_right (show 1 ≤ L by omega) (show 0 ≤ (B.toNat : Int) by omega)
        omega
      omega
    have k1 : posB cs (n + L * (B.toNat : Int)) = true := by rw [posB_mod hc]; exact hp
    have k2 := hB _ t0 (h _ ((cov_pos hc.nn).mpr (.inl k1)))
    rw [posB_mod hd] at k2
    exact k2
/-- pairs of classes alone, their moduli divide M -/
def Cls' (M : Int) (cs : List Cl) : Prop := ∀ c ∈ cs, 0 < c.2 ∧ c.2 ∣ M
theorem Cls'.dv {M : Int} {cs : List Cl} (h : Cls' M cs) : Dv M cs := fun c hc => .inr (h c hc)
theorem Cls'.app {M : Int} {cs ds : List Cl} (h : Cls' M cs) (k : Cls' M ds) : Cls' M (cs ++ ds) := fun c hc => (List.mem_append.mp hc).elim (h c) (k c)
theorem Cls'.mono {L M : Int} {cs : List Cl} (h : Cls' L cs) (d : L ∣ M) : Cls' M cs := fun c hc => ⟨(h c hc).1, Int.dvd_trans (h c hc).2 d⟩
theorem Cls'.sub {L : Int} {cs ds : List Cl} (h : Cls' L cs) (s : ∀ c ∈ ds, c ∈ cs) : Cls' L ds := fun c hc => h c (s c hc)
end Tr

/-! # k01: in and == by the pairs a Numbers was made of. -/
namespace Tr
open PySem L2
/-- steps of a reading that are plain -/
local macro_rules | `(tactic| walk_at "x") => `(tactic| (refine' ⟨_, _, _, _, rfl, rfl, ?k1, ?k2, ?_⟩; (case k1 => exact SqT.of (by assumption)); (case k2 => exact rfl)))
local macro_rules | `(tactic| walk_at "g") => `(tactic| repeat (first | (refine ⟨_, rfl, ?_⟩) | (refine ⟨_, _, rfl, rfl, ?_⟩) | (refine ⟨_, _, rfl, ?_⟩) | (refine ⟨rfl, ?_⟩) | walk_at "x"))


theorem cov_perm {cs es : List Cl} (h : ∀ c, c ∈ cs ↔ c ∈ es) (n : Int) : cov cs n ↔ cov es n :=
  ⟨fun ⟨c, hc, d⟩ => ⟨c, (h c).mp hc, d⟩, fun ⟨c, hc, d⟩ => ⟨c, (h c).mpr hc, d⟩⟩
section
variable {P : Program} {w : World} {K : PySem.W.Frag} {mg : Str → Option Value} {base : Heap}
theorem Met.imp {k : Nat} {C : Addr} {x : Str} {sp sp' : Sp} {dvs : List V} (c : Met P w K mg base k C x sp dvs) (h : ∀ vs H Q E, sp' vs H Q E → sp vs H Q E) : Met P w K mg base k C x sp' dvs :=
  let ⟨f, fd, ps, ds, a, b, F, r⟩ := c.ex
  ⟨f, fd, ps, ds, a, b, F.imp h, r⟩
/-- in: an integer by the pairs, another value is none -/
def spHasM (K : PySem.W.Frag) : Sp := fun vs H Q _ => ∃ (a : Addr) (x : V) (cs : List Cl), vs = [.ref a, x] ∧ MkN K H a cs ∧ (∀ c ∈ cs, 0 ≤ c.2 ∧ Bd 8000 c.2) ∧ cs.length < 64 ∧
  ((∃ n : Int, x = .int n ∧ ∀ H', Same H H' → Q (.bl (hasC cs n)) H') ∨ (IsW K H x false ∧ ∀ H', Same H H' → Q (.bl false) H'))
theorem c_hasM (T : Txt K mg) : Met P w K mg base 2 (He.ga K "Numbers") "__contains__" (spHasM K) [] := by
  refine (c_has T).imp fun vs H Q E h => ?_
  obtain ⟨a, x, cs, rfl, ⟨ds, ns, hN, nm⟩, hc, hl, h⟩ := h
  refine ⟨a, x, rfl, ?_⟩
  rcases h with ⟨n, rfl, k⟩ | ⟨hw, k⟩
  · refine .inl ⟨n, ds, ns, rfl, hN, nm.ok hc hl, fun H' s' => ?_⟩
    rw [nm.hasB fun c q => (hc c q).1]
    exact k H' s'
  · exact .inr ⟨hw, k⟩
/-- == of two Numbers -/
def spEqM (K : PySem.W.Frag) : Sp := fun vs H Q _ => ∃ (a b : Addr) (cs es : List Cl) (L : Int), vs = [.ref a, .ref b] ∧ MkN K H a cs ∧ MkN K H b es ∧ 0 < L ∧ Bd 6000 L ∧ Dv L cs ∧ Dv L es ∧ cs.length < 64 ∧ es.length < 64 ∧
  ∀ (r : Bool) H', Same H H' → (r = true ↔ ∀ n, cov cs n ↔ cov es n) → Q (.bl r) H'
theorem c_eqM (T : Txt K mg) : Met P w K mg base 71 (He.ga K "Numbers") "__eq__" (spEqM K) [] := by
  refine (c_eq T).imp fun vs H Q E h => ?_
  obtain ⟨a, b, cs, es, L, rfl, ⟨ds, ns, hA, nA⟩, ⟨ds', ns', hB, nB⟩, L0, LB, d1, d2, l1, l2, k⟩ := h
  refine ⟨a, b, ds, ns, ds', ns', L, rfl, hA, hB, nA.ok (d1.bd L0 LB) l1, nB.ok (d2.bd L0 LB) l2, L0, LB, nA.dvd (fun c hc h0 => (d1 c hc).elim (fun e => by omega) fun e => e.2), nB.dvd (fun c hc h0 => (d2 c hc).elim (fun e => by omega) fun e => e.2), fun r H' s' hr => k r H' s' (hr.trans ?_)⟩
  exact ⟨fun z n => (nA.has d1.nn n).symm.trans ((z n).trans (nB.has d2.nn n)), fun z n => (nA.has d1.nn n).trans ((z n).trans (nB.has d2.nn n).symm)⟩
/-- == of a Numbers and a stranger -/
def spEqX (K : PySem.W.Frag) : Sp := fun vs H Q _ => ∃ (a : Addr) (y : V) (t : Value), vs = [.ref a, y] ∧ TyX K H y t ∧ PySem.W.kitOne K t (.ref (He.ga K "Numbers")) = some false ∧ Q (.bl false) H
theorem c_eqX (T : Txt K mg) : Met P w K mg base 71 (He.ga K "Numbers") "__eq__" (spEqX K) [] := by
  have c_outside := @c_outside P w K mg base T
  refine metN T.m_Numbers____eq__ sc_Numbers___eq__ (fun vs H Q E h => ?_) (fun _ _ _ _ _ _ us hl => match us, hl with | [_, _], _ => rfl) (fun f cdv A outer s H vs Q E hr h => ?_)
  · obtain ⟨a, y, t, rfl, _⟩ := h
    rfl
  · obtain ⟨a, y, t, rfl, ty, kt, k⟩ := h
    refine ⟨_, (pss_one (ps_ret (pe_and (pe_callB call_isi (by rfl) T.b_isinstance (by decide +kernel) (pa_cons (pv 1) (pa_cons (pe_glob (v := .ref (He.ga K "Numbers")) (by rfl) T.v_Numbers rfl) pa_nil))) (pe_and (pe_cmpR op_isN (pe_mtx c_outside hr (by first | decide | omega) passL (pv 0) (pa_cons (pv 1) pa_nil)) pe_non (nomark _)) (pe_one (pe_cmpR op_isN (pe_mtx c_outside hr (by first | decide | omega) passL (pv 1) (pa_cons (pv 0) pa_nil)) pe_non (nomark _))))))), ?_⟩
    walk_at "g"
    refine ⟨y, .ref (He.ga K "Numbers"), _, _, false, rfl, .own _, ty, kt, false, rfl, ?_⟩
    walk_at "g"
    exact k
end
section
variable {K : PySem.W.Frag} {H : Hp} {a b : Addr} {cs es : List Cl} {L : Int} {E : XK} {Q : VK} {out : Bool → V} {n : Int}
theorem MkN.at_ (h : MkN K H a cs) : ∃ dx fs, H a = some (.ins (He.ga K "Numbers") dx fs) := by
  obtain ⟨ds, ns, ⟨dx, q1, q2, e1, _⟩, _⟩ := h.ex
  exact ⟨dx, _, e1⟩
theorem st_same (hA : MkN K H a cs) (hB : MkN K H b es) (L0 : 0 < L) (LB : Bd 6000 L) (d1 : Dv L cs) (d2 : Dv L es) (l1 : cs.length < 64) (l2 : es.length < 64) (e : ∀ n, cov cs n ↔ cov es n) (k : ∀ H', Same H H' → Q (out true) H') : rEqO (He.ga K "Numbers") (spEqM K) E out (.ref a) (.ref b) H Q := by
  obtain ⟨dx, fs, ha⟩ := hA.at_
  obtain ⟨dy, gs, hb⟩ := hB.at_
  refine ⟨a, dx, fs, b, dy, gs, rfl, rfl, ha, hb, a, b, cs, es, L, rfl, hA, hB, L0, LB, d1, d2, l1, l2, fun r H' s' hr => ⟨r, rfl, ?_⟩⟩
  rw [hr.mpr e]
  exact k H' s'
end
end Tr

namespace Tr
open PySem L2
/-! ### making a Numbers, comprehensions that draw -/
theorem cut_take (xs : List V) (k : Nat) : cutV xs none (some (k : Int)) = xs.take k := by
  unfold cutV
  rw [HT.sIx_none, HT.sIx_nat, List.drop_zero, Nat.sub_zero]
  rcases Nat.le_total k xs.length with h | h
  · rw [Nat.min_eq_left h]
  · rw [Nat.min_eq_right h, List.take_of_length_le (Nat.le_refl _), List.take_of_length_le h]
theorem P2.split {S : Cl → Cl → Prop} {H : Hp} {ys : List V} {cs : List Cl} (h : P2 (fun y c => ∃ u e, y = V.ref u ∧ PrT H u e ∧ S e c) ys cs) : ∃ (us : List Addr) (es : List Cl), ys = us.map V.ref ∧ P2 (PrT H) us es ∧ P2 S es cs := by
  induction h with
  | nil => exact ⟨[], [], rfl, .nil, .nil⟩
  | cons r _ ih =>
    obtain ⟨u, e, rfl, h1, h2⟩ := r
    obtain ⟨us, es, rfl, h3, h4⟩ := ih
    exact ⟨u :: us, e :: es, rfl, .cons h1 h3, .cons h2 h4⟩
theorem NumAt.kpB {C p a : Addr} {H H' : Hp} {kvs : List (Key × V)} {ds : List Cl} {ns : List Int} (k : Kp p H H') (hp : H p = some (.dK kvs)) (h : NumAt C H a ds ns) : NumAt C H' a ds ns :=
  let ⟨dx, q1, q2, e1, e2, e3⟩ := h.ex
  ⟨dx, q1, q2, k _ _ e1 (ne_of e1 hp (by intro z; cases z)), e2.kpB k hp, k _ _ e3 (ne_of e3 hp (by intro z; cases z))⟩
theorem neB {a b : Bool} (h : a = b) : (!decide (V.bl a = V.bl b)) = false := by
  rw [h, decide_eq_true rfl]
  rfl
/-- one pair told in another way -/
def Mv (e c : Cl) : Prop := e.2 = c.2 ∧ ∃ t : Int, e.1 = c.1 + c.2 * t ∧ -2 ≤ t ∧ t ≤ 2
theorem Mv.dvd {e c : Cl} (h : Mv e c) (n : Int) : e.2 ∣ n - e.1 ↔ c.2 ∣ n - c.1 := by
  obtain ⟨h1, t, h2, _⟩ := h
  rw [h1, h2]
  have e1 : n - (c.1 + c.2 * t) = (n - c.1) - c.2 * t := by omega
  have e2 : n - c.1 = (n - (c.1 + c.2 * t)) + c.2 * t := by omega
  constructor
  · intro d
    rw [e2]
    exact Int.dvd_add d (Int.dvd_mul_right _ _)
  · intro d
    rw [e1]
    exact Int.dvd_sub d (Int.dvd_mul_right _ _)
theorem mv_cov {es cs : List Cl} (h : P2 Mv es cs) (n : Int) : cov es n ↔ cov cs n := by
  constructor
  · rintro ⟨e, he, d⟩
    obtain ⟨c, hc, m⟩ := h.meml he
    exact ⟨c, hc, (m.dvd n).mp d⟩
  · rintro ⟨c, hc, d⟩
    obtain ⟨e, he, m⟩ := h.memr hc
    exact ⟨e, he, (m.dvd n).mpr d⟩
/-- tuples stay -/
def Tk (H H' : Hp) : Prop := ∀ b xs, H b = some (.tup xs) → H' b = some (.tup xs)
theorem Same.tk {H H' : Hp} (s : Same H H') : Tk H H' := fun b _ e => s b _ e
theorem Kp.tk {p : Addr} {H H' : Hp} {kvs : List (Key × V)} (k : Kp p H H') (hp : H p = some (.dK kvs)) : Tk H H' := fun b _ e => k b _ e (ne_of e hp (by intro z; cases z))
theorem tk_upd {D : Addr} {H : Hp} {o : HO} {xs : List V} (h : H D = some (.lst xs)) : Tk H (upd H D o) := fun b _ e => by
  rw [upd_ne (ne_of e h (by intro z; cases z))]
  exact e
/-- [e for a, b in pairs], e draws d numbers -/
theorem lc_pairsB {K : PySem.W.Frag} {a : Addr} {ts : List Addr} {cs : List (Int × Int)} {i1 i2 : Nat} {tt : TT} {te : TE} {vs : List Nat} {σ : St} {H1 : Hp} {D p q : Addr} {N d : Nat} {Qd : Hp → Prop} (R : V → Int × Int → Hp → Prop)
    (hR : ∀ y c H H', Tk H H' → R y c H → R y c H') (hD : H1 D = none) (hB : Bag H1 p q N) (hL : H1 a = some (.lst (ts.map V.ref))) (hP : P2 (PrT H1) ts cs) (hsz : cs.length ≤ 100000)
    (hw : ∀ x y, wipe (((wipe σ vs).set i1 x).set i2 y) vs = wipe σ vs) (ht : ∀ σ H Q, Q true H → tt σ H Q)
    (he : ∀ c ∈ cs, ∀ H Q M, Kp p H1 H → Bag H p q M → M ≤ N + d * cs.length → (∀ y H', Kp p H H' → Bag H' p q (M + d) → R y c H' → Q y H') → te (((wipe σ vs).set i1 (some (.int c.1))).set i2 (some (.int c.2))) H Q)
    (hd : ∀ ys H, Kp p H1 H → Bag H p q (N + d * cs.length) → H D = some (.lst ys) → P2 (fun y c => R y c H) ys cs → Qd H) : LcG (Itl K a) (gTup K 2 (gCons (gName i1) (gCons (gName i2) gNil))) tt te vs σ H1 D Qd := by
  have hlen := hP.len
  obtain ⟨kvs, cells, hp, hq⟩ := hB.at_
  have npD : p ≠ D := ne_of_none hp hD
  have nqD : q ≠ D := ne_of_none hq hD
  have naD : a ≠ D := ne_of_none hL hD
  have nap : a ≠ p := ne_of hL hp (by intro z; cases z)
  refine lc_list (K := K) (a := a) (xs := ts.map V.ref) (fun i H => Kp p H1 H ∧ Bag H p q (N + d * i) ∧ ∃ ys, H D = some (.lst ys) ∧ P2 (fun y c => R y c H) ys (cs.take i)) ⟨(same_upd hD).kp, hB.wr npD.symm nqD.symm, [], upd_same, .nil⟩ (fun i H _ ⟨s, _⟩ => SqL.of (s _ _ hL nap)) ?_ ?_
  · rintro i x H hx ⟨s, hBi, ys, hy, py⟩
    rw [List.getElem?_map] at hx
    cases ht' : ts[i]? with
    | none => rw [ht'] at hx; cases hx
    | some t =>
      rw [ht'] at hx
      cases hx
      obtain ⟨c, hc, r⟩ := hP.getl ht'
      have hi : i < cs.length := (List.getElem?_eq_some_iff.mp hc).1
      have ll : ys.length ≤ 100000 := by
        have h1 := py.len
        rw [List.length_take] at h1
        omega
      refine ⟨t, _, rfl, SqT.of (s.tk hp _ _ r), rfl, _, _, rfl, _, _, rfl, rfl, hw _ _, ht _ _ _ ?_⟩
      rw [if_pos rfl]
      obtain ⟨kvs2, cells2, hp2, hq2⟩ := hBi.at_
      have : N + d * i ≤ N + d * cs.length := Nat.add_le_add_left (Nat.mul_le_mul_left d (Nat.le_of_lt hi)) N
      refine he c (mem_of_at hc) H _ _ s hBi this fun y H' s' hB' r' => ⟨ys, s' _ _ hy npD.symm, small_app (Nat.le_refl _) ll, (s.trans s').wr hD, ?_, ys ++ [y], upd_same, ?_⟩
      · rw [Nat.mul_succ, ← Nat.add_assoc]
        exact hB'.wr npD.symm nqD.symm
      · rw [take_snoc hc]
        have hy' := s' _ _ hy npD.symm
        exact (py.mono fun v b rb => hR v b H' _ (tk_upd hy') (hR v b H H' (s'.tk hp2) rb)).snoc (hR y c H' _ (tk_upd hy') r')
  · rintro H ⟨s, hBi, ys, hy, py⟩
    rw [List.length_map, hlen] at hBi
    rw [List.length_map, hlen, List.take_length] at py
    exact hd ys H s hBi hy py
/-- a .. b - 1 -/
def rgI (a b : Int) : List Int := (List.range (b - a).toNat).map fun (i : Nat) => a + (i : Int)
theorem rgV_I (a b : Int) : rgV a b = (rgI a b).map V.int := by
  unfold rgV rgI
  rw [List.map_map]
  rfl
theorem mem_rgI {a b x : Int} : x ∈ rgI a b ↔ a ≤ x ∧ x < b := by
  unfold rgI
  rw [List.mem_map]
  constructor
  · rintro ⟨i, hi, rfl⟩
    have := List.mem_range.mp hi
    omega
  · rintro ⟨h1, h2⟩
    exact ⟨(x - a).toNat, List.mem_range.mpr (by omega), by omega⟩
theorem len_rgI {a b : Int} : (rgI a b).length = (b - a).toNat := by
  unfold rgI
  rw [List.length_map, List.length_range]
end Tr

/-! # k01: the law's pairs and wrong values; what a lambda's refusal is told as. -/
namespace Tr
open PySem L2
/-- steps of a reading that are plain -/
local macro_rules | `(tactic| walk_at "x") => `(tactic| (refine' ⟨_, _, _, _, rfl, rfl, ?k1, ?k2, ?_⟩; (case k1 => exact SqT.of (by assumption)); (case k2 => exact rfl)))
local macro_rules | `(tactic| walk_at "g") => `(tactic| repeat (first | (refine ⟨_, rfl, ?_⟩) | (refine ⟨_, _, rfl, rfl, ?_⟩) | (refine ⟨_, _, rfl, ?_⟩) | (refine ⟨rfl, ?_⟩) | walk_at "x"))


def G40 : Int := 10 ^ 40 + 3
def L01 : Int := 840 * G40
theorem L01_pos : 0 < L01 := by decide +kernel
theorem L01_bd : Bd 6000 L01 := Bd.mono (n := 200) (by show L01.natAbs < 2 ^ 200; decide +kernel) (by decide)
/-- a pair of the law -/
structure PrL (c : Cl) : Prop where
  dv : c.2 = 0 ∨ (0 < c.2 ∧ c.2 ∣ L01)
  r : Bd 200 c.1
theorem PrL.all {cs : List Cl} (h : ∀ c ∈ cs, PrL c) : Dv L01 cs := fun c hc => (h c hc).dv
theorem mod_dv : ∀ v : Int, 0 ≤ v → v < 9 → ∀ g, g = 1 ∨ g = G40 → (v * g = 0 ∨ (0 < v * g ∧ v * g ∣ L01)) := by
  intro v h0 h1 g hg
  by_cases hv : v = 0
  · left
    rw [hv, Int.zero_mul]
  right
  have hv0 : 0 < v := by omega
  have gp : 0 < g := by
    rcases hg with rfl | rfl
    · decide
    · decide +kernel
  have gd : g ∣ G40 := by
    rcases hg with rfl | rfl
    · exact Int.one_dvd _
    · exact Int.dvd_refl _
  have vd : v ∣ 840 := by
    rcases (show v = 1 ∨ v = 2 ∨ v = 3 ∨ v = 4 ∨ v = 5 ∨ v = 6 ∨ v = 7 ∨ v = 8 by omega) with rfl | rfl | rfl | rfl | rfl | rfl | rfl | rfl <;> decide
  exact ⟨Int.mul_pos hv0 gp, Int.mul_dvd_mul vd gd⟩
theorem rem_bd (v g : Int) (h0 : 0 ≤ v) (h1 : v < 41) (hg : g = 1 ∨ g = 10 ^ 40) : Bd 200 ((v - 20) * g) := by
  show ((v - 20) * g).natAbs < 2 ^ 200
  rw [Int.natAbs_mul]
  have a1 : (v - 20).natAbs ≤ 20 := by omega
  have a2 : g.natAbs ≤ 10 ^ 40 := by
    rcases hg with rfl | rfl <;> decide +kernel
  exact Nat.lt_of_le_of_lt (Nat.mul_le_mul a1 a2) (by decide +kernel)
theorem bigD : ∀ x : Int, 0 ≤ x → x < 256 → Bd 8000 x := fun x h0 h1 => Bd.mono (n := 8) (by show x.natAbs < 2 ^ 8; omega) (by decide)
theorem Sqh.kpB {p u : Addr} {H H' : Hp} {kvs : List (Key × V)} {xs : List V} (k : Kp p H H') (hp : H p = some (.dK kvs)) (h : Sqh H u xs) : Sqh H' u xs :=
  h.imp (fun h => k _ _ h (ne_of h hp (by intro z; cases z))) fun h => k _ _ h (ne_of h hp (by intro z; cases z))
theorem fresh_kp {p q u : Addr} {H H' : Hp} {N : Nat} (kp : Kp p H H') (hB : Bag H' p q N) (nu : H' u = none) : ∀ b o, H b = some o → V.ref u ≠ .ref b := fun b o e z => by
  cases z
  by_cases h : u = p
  · obtain ⟨_, _, hp, _⟩ := id hB.at_
    rw [h, hp] at nu
    cases nu
  · rw [kp _ _ e h] at nu
    cases nu
theorem fresh_s {u : Addr} {H H' : Hp} (s : Same H H') (nu : H' u = none) : ∀ b o, H b = some o → V.ref u ≠ .ref b := fun b o e z => by
  cases z
  rw [s _ _ e] at nu
  cases nu
/-- the law's wrong values, by what the heap has -/
inductive WgV (H : Hp) : V → Prop
  | five : WgV H (.int 5)
  | non : WgV H .non
  | str {z : Str} : WgV H (.str z)
  | len {u : Addr} {xs : List V} (h : Sqh H u xs) (hl : xs.length ≠ 2) : WgV H (.ref u)
  | neg {u : Addr} {i : Int} {j : Int} (h : Sqh H u [.int i, .int j]) (n : j < 0) : WgV H (.ref u)
  | t1 {u : Addr} {b : Bool} {v : V} (h : Sqh H u [.bl b, v]) : WgV H (.ref u)
  | s1 {u : Addr} {b : Str} {v : V} (h : Sqh H u [.str b, v]) : WgV H (.ref u)
  | t2 {u : Addr} {i : Int} {b : Bool} (h : Sqh H u [.int i, .bl b]) : WgV H (.ref u)
  | s2 {u : Addr} {i : Int} {b : Str} (h : Sqh H u [.int i, .str b]) : WgV H (.ref u)
theorem WgV.to {H H' : Hp} {v : V} (h : WgV H v) (k : ∀ u xs, Sqh H u xs → Sqh H' u xs) : WgV H' v := by
  cases h with
  | five => exact .five
  | non => exact .non
  | str => exact .str
  | len h hl => exact .len (k _ _ h) hl
  | neg h n => exact .neg (k _ _ h) n
  | t1 h => exact .t1 (k _ _ h)
  | s1 h => exact .s1 (k _ _ h)
  | t2 h => exact .t2 (k _ _ h)
  | s2 h => exact .s2 (k _ _ h)
theorem isW_bl {K : PySem.W.Frag} {H : Hp} (b : Bool) : IsW K H (.bl b) false := ⟨_, true, true, .base (.bl b), kit_ty (by decide +kernel), kit_ty (by decide +kernel), rfl⟩
theorem isW_str {K : PySem.W.Frag} {H : Hp} (b : Str) : IsW K H (.str b) false := ⟨_, false, false, .base (.str b), kit_ty (by decide +kernel), kit_ty (by decide +kernel), rfl⟩
theorem isW_non {K : PySem.W.Frag} {H : Hp} : IsW K H .non false := ⟨_, false, false, .base .non, kit_ty (by decide +kernel), kit_ty (by decide +kernel), rfl⟩
theorem isW_sq {K : PySem.W.Frag} {H : Hp} {u : Addr} {xs : List V} (h : Sqh H u xs) : IsW K H (.ref u) false := by
  rcases h with h | h
  · exact ⟨_, false, false, .base (.lst h), kit_ty (by decide +kernel), kit_ty (by decide +kernel), rfl⟩
  · exact ⟨_, false, false, .base (.tup h), kit_ty (by decide +kernel), kit_ty (by decide +kernel), rfl⟩
theorem isW_v {K : PySem.W.Frag} {H : Hp} {v : V} (h : (∃ i, v = .int i) ∨ (∃ b, v = .bl b) ∨ ∃ b, v = .str b) : ∃ y, IsW K H v y := by
  rcases h with ⟨i, rfl⟩ | ⟨b, rfl⟩ | ⟨b, rfl⟩
  · exact ⟨_, isW_int i⟩
  · exact ⟨_, isW_bl b⟩
  · exact ⟨_, isW_str b⟩
theorem WgV.wr {K : PySem.W.Frag} {H : Hp} {v : V} (h : WgV H v) (hs : ∀ u a b, v = .ref u → Sqh H u [a, b] → ∃ y, IsW K H b y) : WrV K H v := by
  cases h with
  | five => exact .no (noSq_ty (.base (.int 5)) (kit_ty (by decide +kernel)) (kit_ty (by decide +kernel)))
  | non => exact .no (noSq_ty (.base .non) (kit_ty (by decide +kernel)) (kit_ty (by decide +kernel)))
  | str => exact .no (noSq_ty (.base (.str _)) (kit_ty (by decide +kernel)) (kit_ty (by decide +kernel)))
  | len h hl => exact .len h hl
  | neg h n => exact .two h (isW_int _) (isW_int _) (fun _ _ => ⟨_, rfl, n⟩)
  | t1 h => obtain ⟨y, hy⟩ := hs _ _ _ rfl h; exact .two h (isW_bl _) hy (fun z => nomatch z)
  | s1 h => obtain ⟨y, hy⟩ := hs _ _ _ rfl h; exact .two h (isW_str _) hy (fun z => nomatch z)
  | t2 h => exact .two h (isW_int _) (isW_bl _) (fun _ z => nomatch z)
  | s2 h => exact .two h (isW_int _) (isW_str _) (fun _ z => nomatch z)
/-- the lambda called in a try -/
def tAct (n : Nat) (f c' : Addr) (q : Str) (tl : XK → Hp → VK → Prop) (W : WX) : TS := fun D σ H => ∃ Ew : XK, (∀ cls d σ' H', σ'.length = n → Ew cls d H' → W cls d σ' H') ∧ σ[0]? = some (some (.ref f)) ∧ H c' = some (LamX.CodeO c' q) ∧ tl Ew H fun _ H' => D.nx σ H'
theorem psAct {Z : Cx} {a q : Str} {f c' : Addr} {tl : XK → Hp → VK → Prop}
    (act : ∀ (W : WX) (pn : List (Addr × Obj)) (xe : Value → Shared → Prop) (E : XK) (p1 p2 : Pos), Takes (Z.tr pn xe) W → (∀ cls d σ' H', E cls d H' → W cls d σ' H') →
      PE (Z.tr pn xe) (.Call (.Name a p1) [] [] p2) (fun σZ HZ Q => σZ[0]? = some (some (.ref f)) ∧ HZ c' = some (LamX.CodeO c' q) ∧ tl E HZ Q))
    (W : WX) (pn : List (Addr × Obj)) (xe : Value → Shared → Prop) (tk : Takes (Z.tr pn xe) W) {p1 p2 p3 : Pos} : PS (Z.tr pn xe) (.Expr (.Call (.Name a p1) [] [] p2) p3) (tAct Z.N.length f c' q tl W) := by
  have tk2 : Takes (Z.tr pn xe) (fun cls d σ H => σ.length = Z.N.length → W cls d σ H) := fun u s' ⟨a, B, sI, pins, σ, H, cls, d, e, I, nb, up, sky, na, os, ag, w⟩ =>
    tk u s' ⟨a, B, sI, pins, σ, H, cls, d, e, I, nb, up, sky, na, os, ag, w I.len⟩
  exact ⟨fun pins s' σ H' D I ⟨Ew, wish, h1, h2, h3⟩ => (ps_expr (pos := p3) (act _ pn xe Ew p1 p2 tk2 fun cls d σ' H' he hl => wish cls d σ' H' hl he)).run pins s' σ H' D I ⟨h1, h2, h3⟩⟩
/-- what the law tells of a lambda: BadPart's index, or None -/
def TTi (K : PySem.W.Frag) : (XK → Hp → VK → Prop) → Hp → VK → Prop := fun tl H Q => tl (fun cls d H' => ∃ i, BadP K i cls d H' ∧ Q (.int (i : Nat)) H') H fun _ H' => Q .non H'
section
variable {P : Program} [PM : PMain P] {w : World} {K : PySem.W.Frag} {mg : Str → Option Value} {base : Heap}
theorem told_d {X : Cx} (T : Txt X.K X.mg) {q : Str} {g : Addr} {cdg : Value} : LamX.GivesTo X ["_law_act", "e"] "_law_told" (defScope s__law_told) g cdg (defBody s__law_told) "_law_act" q (TTi X.K) := by
  intro f c' s H Q tl act hc h
  unfold TTi at h
  refine ⟨_, (pss_cons (ps_try_as (i := 1) rfl rfl sc__law_told.nd rfl rfl ⟨rfl, by decide, .inl T.x_BadPart.glo⟩ takesN (fun W pn xe tk _ => (pss_one (psAct act W pn xe tk))) (fun a oe cls d pn hz hf => (pss_one (ps_ret (pe_xf T.x_BadPart.xf (T.x_BadPart.no _ (by simp)) hz hf (pv 1))))))
      (pss_one (ps_ret pe_non))), ?_⟩
  refine ⟨_, fun cls d σ' H' hl he => ?_, rfl, hc, h⟩
  obtain ⟨i, ⟨rfl, dd, rfl, hd⟩, k⟩ := he
  match σ', hl with
  | [y0, y1], _ =>
  refine ⟨true, T.x_BadPart.self, fun _ z hz => ?_, fun q => nomatch q⟩
  walk_at "g"
  refine ⟨dd, _, .int (i : Nat), rfl, hd, by rfl, ?_⟩
  exact k
def spPairL (K : PySem.W.Frag) : Sp := fun vs H Q _ => ∃ (p q : Addr) (N : Nat), vs = [.ref p] ∧ Bag H p q N ∧ N < 900000 ∧ ∀ v c H', Kp p H H' → Bag H' p q (N + 5) → PrS H' v c → PrL c → (∀ b o, H b = some o → v ≠ .ref b) → Q v H'
theorem c__law_pair (T : Txt K mg) : Cal P w K mg base 2 "_law_pair" (spPairL K) [] := by
  have c__law_draw := @c__law_draw P w K mg base T
  refine calN T.d__law_pair sc__law_pair (fun vs H Q E h => ?_) (fun _ _ _ _ _ _ us hl => match us, hl with | [_], _ => rfl) (fun f cdv A outer s H vs Q E hr h => ?_)
  · obtain ⟨p, q, N, rfl, _⟩ := h
    rfl
  · obtain ⟨p, q, N, rfl, hB, hN, k⟩ := h
    refine ⟨_, (pss_cons (ps_set (i := 1) sc__law_pair.nd rfl (Or.inl rfl) (pe_op op_mul (pe_op op_sub (pe_cx c__law_draw hr (by first | decide | omega) rfl passL (pa_cons (pv 0) (pa_cons pe_int pa_nil))) pe_int) (pe_ix ix_list (pe_lst (pa_cons pe_int (pa_cons (pe_op op_pow pe_int pe_int) pa_nil))) (pe_cx c__law_draw hr (by first | decide | omega) rfl passL (pa_cons (pv 0) (pa_cons pe_int pa_nil))) (fun _ _ => rfl))))
      (pss_cons (ps_set (i := 2) sc__law_pair.nd rfl (Or.inl rfl) (pe_op op_mul (pe_cx c__law_draw hr (by first | decide | omega) rfl passL (pa_cons (pv 0) (pa_cons pe_int pa_nil))) (pe_ix ix_list (pe_lst (pa_cons pe_int (pa_cons (pe_op op_add (pe_op op_pow pe_int pe_int) pe_int) pa_nil))) (pe_cx c__law_draw hr (by first | decide | omega) rfl passL (pa_cons (pv 0) (pa_cons pe_int pa_nil))) (fun _ _ => rfl))))
      (pss_one (ps_ret (pe_ifExp (pt_cmpR op_eq (pe_cx c__law_draw hr (by first | decide | omega) rfl passL (pa_cons (pv 0) (pa_cons pe_int pa_nil))) pe_int (nomark _)) (pe_lst (pa_cons (pv 1) (pa_cons (pv 2) pa_nil))) (pe_tup (pa_cons (pv 1) (pa_cons (pv 2) pa_nil)))))))), ?_⟩
    walk_at "g"
    refine ⟨p, q, 41, _, rfl, hB, by omega, by decide, bigD _ (by decide) (by decide), fun v1 H1 kp1 hB1 v10 v11 => ?_⟩
    walk_at "g"
    refine ⟨⟨by decide, by decide, by decide⟩, ?_⟩
    walk_at "g"
    refine ⟨by show 2 ≤ sizeLine; decide, fun l1 nl1 => ?_⟩
    obtain ⟨g1, eg1⟩ : ∃ g1 : V, g1 = (fun i j : Int => V.int (i ^ j.toNat)) 10 40 := ⟨_, rfl⟩
    rw [← eg1]
    have s2 := same_upd (o := .lst [.int 1, g1]) nl1
    have hl1 : upd H1 l1 (.lst [.int 1, g1]) l1 = some (.lst [.int 1, g1]) := upd_same
    generalize upd H1 l1 (.lst [.int 1, g1]) = H2 at *
    have hB2 := hB1.same s2
    obtain ⟨_, _, hp2, _⟩ := id hB2.at_
    walk_at "g"
    refine ⟨p, q, 2, _, rfl, hB2, by omega, by decide, bigD _ (by decide) (by decide), fun v2 H3 kp3 hB3 v20 v21 => ?_⟩
    obtain ⟨j2, rfl⟩ : ∃ j : Nat, v2 = (j : Int) := ⟨v2.toNat, by omega⟩
    have hl3 := kp3 _ _ hl1 (ne_of hl1 hp2 (by intro z; cases z))
    obtain ⟨f1, hf1, ef1⟩ : ∃ f : Int, [V.int 1, g1][j2]? = some (.int f) ∧ (f = 1 ∨ f = 10 ^ 40) := by
      rcases (show j2 = 0 ∨ j2 = 1 by omega) with rfl | rfl
      · exact ⟨_, rfl, .inl rfl⟩
      · exact ⟨_, by rw [eg1]; rfl, .inr rfl⟩
    refine ⟨l1, _, (j2 : Int), _, rfl, rfl, SqL.of hl3, atI_nat hf1, ?_⟩
    have hr := rem_bd v1 f1 v10 v11 ef1
    clear hl1 hl3 eg1 hf1
    walk_at "g"
    refine ⟨.inl ⟨by omega, by omega⟩, ?_⟩
    walk_at "g"
    refine ⟨p, q, 9, _, rfl, hB3, by omega, by decide, bigD _ (by decide) (by decide), fun v4 H4 kp4 hB4 v40 v41 => ?_⟩
    walk_at "g"
    refine ⟨⟨by decide, by decide, by decide⟩, ?_⟩
    walk_at "g"
    refine ⟨by show 2 ≤ sizeLine; decide, fun l5 nl5 => ?_⟩
    obtain ⟨g2, eg2⟩ : ∃ g2 : Int, g2 = (10 ^ Int.toNat 40 + 3) := ⟨_, rfl⟩
    have s5 := same_upd (o := .lst [.int 1, .int (10 ^ Int.toNat 40 + 3)]) nl5
    have hl5 : upd H4 l5 (.lst [.int 1, .int (10 ^ Int.toNat 40 + 3)]) l5 = some (.lst [.int 1, .int (10 ^ Int.toNat 40 + 3)]) := upd_same
    generalize upd H4 l5 (.lst [.int 1, .int (10 ^ Int.toNat 40 + 3)]) = H5 at *
    have hB5 := hB4.same s5
    obtain ⟨_, _, hp5, _⟩ := id hB5.at_
    walk_at "g"
    refine ⟨p, q, 2, _, rfl, hB5, by omega, by decide, bigD _ (by decide) (by decide), fun v6 H6 kp6 hB6 v60 v61 => ?_⟩
    obtain ⟨j6, rfl⟩ : ∃ j : Nat, v6 = (j : Int) := ⟨v6.toNat, by omega⟩
    have hl6 := kp6 _ _ hl5 (ne_of hl5 hp5 (by intro z; cases z))
    obtain ⟨f2, hf2, ef2⟩ : ∃ f : Int, [V.int 1, V.int (10 ^ Int.toNat 40 + 3)][j6]? = some (.int f) ∧ (f = 1 ∨ f = G40) := by
      rcases (show j6 = 0 ∨ j6 = 1 by omega) with rfl | rfl
      · exact ⟨_, rfl, .inl rfl⟩
      · exact ⟨_, rfl, .inr rfl⟩
    refine ⟨l5, _, (j6 : Int), _, rfl, rfl, SqL.of hl6, atI_nat hf2, ?_⟩
    have hm := mod_dv v4 v40 v41 f2 ef2
    clear hl5 hl6 hf2 eg2
    walk_at "g"
    refine ⟨.inl ⟨by omega, by omega⟩, ?_⟩
    walk_at "g"
    refine ⟨p, q, 2, _, rfl, hB6, by omega, by decide, bigD _ (by decide) (by decide), fun v7 H7 kp7 hB7 v70 v71 => ?_⟩
    have kp : Kp p H H7 := ((((kp1.trans s2.kp).trans kp3).trans kp4).trans s5.kp).trans (kp6.trans kp7)
    walk_at "g"
    refine iteB (fun c1 => ?_) (fun c1 => ?_)
    · walk_at "g"
      refine ⟨by show 2 ≤ sizeLine; decide, fun u nu => ?_⟩
      exact k _ ((v1 - 20) * f1, v4 * f2) _ (kp.trans (same_upd nu).kp) (hB7.same (same_upd nu)) ⟨u, rfl, .inl upd_same⟩ ⟨hm, hr⟩ (fresh_kp kp hB7 nu)
    · walk_at "g"
      refine ⟨by show 2 ≤ sizeLine; decide, fun u nu => ?_⟩
      exact k _ ((v1 - 20) * f1, v4 * f2) _ (kp.trans (same_upd nu).kp) (hB7.same (same_upd nu)) ⟨u, rfl, .inr upd_same⟩ ⟨hm, hr⟩ (fresh_kp kp hB7 nu)
end
end Tr

/-! # k01: wrong values. -/
namespace Tr
open PySem L2
/-- steps of a reading that are plain -/
local macro_rules | `(tactic| walk_at "x") => `(tactic| (refine' ⟨_, _, _, _, rfl, rfl, ?k1, ?k2, ?_⟩; (case k1 => exact SqT.of (by assumption)); (case k2 => exact rfl)))
local macro_rules | `(tactic| walk_at "g") => `(tactic| repeat (first | (refine ⟨_, rfl, ?_⟩) | (refine ⟨_, _, rfl, rfl, ?_⟩) | (refine ⟨_, _, rfl, ?_⟩) | (refine ⟨rfl, ?_⟩) | walk_at "x"))


/-- two values of a pair: ints, truth values, texts -/
def Plv (v : V) : Prop := (∃ i, v = .int i) ∨ (∃ b, v = .bl b) ∨ ∃ b, v = .str b
/-- a wrong value that stands in the heap -/
structure WgS (H : Hp) (v : V) : Prop where
  wg : WgV H v
  pl : ∀ u a b, v = .ref u → Sqh H u [a, b] → Plv b
theorem WgS.wr {K : PySem.W.Frag} {H : Hp} {v : V} (h : WgS H v) : WrV K H v := h.wg.wr fun u a b e q => isW_v (h.pl u a b e q)
theorem Sqh.inj {H : Hp} {u : Addr} {xs ys : List V} (h : Sqh H u xs) (k : Sqh H u ys) : xs = ys := by
  rcases h with h | h <;> rcases k with k | k <;> · rw [h] at k; cases k <;> rfl
theorem wg_len {H : Hp} {u : Addr} {xs : List V} (h : Sqh H u xs) (hl : xs.length ≠ 2) : WgS H (.ref u) := ⟨.len h hl, fun u' a b e q => by
  cases e
  rw [h.inj q] at hl
  exact (hl rfl).elim⟩
theorem wg_two {H : Hp} {u : Addr} {a b : V} (h : Sqh H u [a, b]) (hb : Plv b) (w : WgV H (.ref u)) : WgS H (.ref u) := ⟨w, fun u' a' b' e q => by
  cases e
  have := h.inj q
  cases this
  exact hb⟩
theorem wg_flat {H : Hp} {v : V} (w : WgV H v) (n : ∀ u, v ≠ .ref u) : WgS H v := ⟨w, fun u _ _ e => (n u e).elim⟩
section
variable {P : Program} [PM : PMain P] {w : World} {K : PySem.W.Frag} {mg : Str → Option Value} {base : Heap}
def spWrong (K : PySem.W.Frag) : Sp := fun vs H Q _ => ∃ (p q : Addr) (N : Nat), vs = [.ref p] ∧ Bag H p q N ∧ N < 900000 ∧ ∀ v H', Kp p H H' → Bag H' p q (N + 1) → WgS H' v → (∀ b o, H b = some o → v ≠ .ref b) → Q v H'
theorem c__law_wrong (T : Txt K mg) : Cal P w K mg base 2 "_law_wrong" (spWrong K) [] := by
  have c__law_draw := @c__law_draw P w K mg base T
  refine calN T.d__law_wrong sc__law_wrong (fun vs H Q E h => ?_) (fun _ _ _ _ _ _ us hl => match us, hl with | [_], _ => rfl) (fun f cdv A outer s H vs Q E hr h => ?_)
  · obtain ⟨p, q, N, rfl, _⟩ := h
    rfl
  · obtain ⟨p, q, N, rfl, hB, hN, k⟩ := h
    refine ⟨_, (pss_cons (ps_set (i := 1) sc__law_wrong.nd rfl (Or.inl rfl) (pe_lst (pa_cons pe_int (pa_cons pe_non (pa_cons pe_str (pa_cons (pe_tup (pa_cons pe_int pa_nil)) (pa_cons (pe_tup (pa_cons pe_int (pa_cons pe_int (pa_cons pe_int pa_nil)))) (pa_cons (pe_tup (pa_cons pe_int (pa_cons (pe_un un_neg pe_int) pa_nil))) (pa_cons (pe_lst (pa_cons pe_int (pa_cons (pe_un un_neg (pe_op op_pow pe_int pe_int)) pa_nil))) (pa_cons (pe_tup (pa_cons pe_bl (pa_cons pe_int pa_nil))) (pa_cons (pe_tup (pa_cons pe_int (pa_cons pe_bl pa_nil))) (pa_cons (pe_tup (pa_cons pe_str (pa_cons pe_int pa_nil))) (pa_cons (pe_tup (pa_cons pe_int (pa_cons pe_str pa_nil))) (pa_cons (pe_lst pa_nil) pa_nil))))))))))))))
      (pss_one (ps_ret (pe_ix ix_list (pv 1) (pe_cx c__law_draw hr (by first | decide | omega) rfl passL (pa_cons (pv 0) (pa_cons (pe_callB call_len (by rfl) T.b_len (by decide +kernel) (pa_cons (pv 1) pa_nil)) pa_nil))) (fun _ _ => rfl))))), ?_⟩
    generalize hσ : L2.start _ _ = σ0
    obtain rfl : σ0 = [some (.ref p), none] := hσ.symm
    clear hσ
    walk_at "g"
    refine ⟨by show 1 ≤ sizeLine; decide, fun t1 n1 => ?_⟩
    have s1 := same_upd (o := .tup [.int 1]) n1
    have e1 : upd H t1 (.tup [.int 1]) t1 = some (.tup [.int 1]) := upd_same
    generalize upd H t1 (.tup [.int 1]) = H1 at *
    walk_at "g"
    refine ⟨by show 3 ≤ sizeLine; decide, fun t2 n2 => ?_⟩
    have s2 := same_upd (o := .tup [.int 1, .int 2, .int 3]) n2
    have e2 : upd H1 t2 (.tup [.int 1, .int 2, .int 3]) t2 = some (.tup [.int 1, .int 2, .int 3]) := upd_same
    generalize upd H1 t2 (.tup [.int 1, .int 2, .int 3]) = H2 at *
    walk_at "g"
    refine ⟨by show 2 ≤ sizeLine; decide, fun t3 n3 => ?_⟩
    have s3 := same_upd (o := .tup [.int 1, .int (-1)]) n3
    have e3 : upd H2 t3 (.tup [.int 1, .int (-1)]) t3 = some (.tup [.int 1, .int (-1)]) := upd_same
    generalize upd H2 t3 (.tup [.int 1, .int (-1)]) = H3 at *
    walk_at "g"
    refine ⟨⟨by decide, by decide, by decide⟩, ?_⟩
    walk_at "g"
    refine ⟨by show 2 ≤ sizeLine; decide, fun t4 n4 => ?_⟩
    have s4 := same_upd (o := .lst [.int 0, .int (-10 ^ Int.toNat 40)]) n4
    have e4 : upd H3 t4 (.lst [.int 0, .int (-10 ^ Int.toNat 40)]) t4 = some (.lst [.int 0, .int (-10 ^ Int.toNat 40)]) := upd_same
    generalize upd H3 t4 (.lst [.int 0, .int (-10 ^ Int.toNat 40)]) = H4 at *
    walk_at "g"
    refine ⟨by show 2 ≤ sizeLine; decide, fun t5 n5 => ?_⟩
    have s5 := same_upd (o := .tup [.bl true, .int 2]) n5
    have e5 : upd H4 t5 (.tup [.bl true, .int 2]) t5 = some (.tup [.bl true, .int 2]) := upd_same
    generalize upd H4 t5 (.tup [.bl true, .int 2]) = H5 at *
    walk_at "g"
    refine ⟨by show 2 ≤ sizeLine; decide, fun t6 n6 => ?_⟩
    have s6 := same_upd (o := .tup [.int 1, .bl true]) n6
    have e6 : upd H5 t6 (.tup [.int 1, .bl true]) t6 = some (.tup [.int 1, .bl true]) := upd_same
    generalize upd H5 t6 (.tup [.int 1, .bl true]) = H6 at *
    walk_at "g"
    refine ⟨by show 2 ≤ sizeLine; decide, fun t7 n7 => ?_⟩
    have s7 := same_upd (o := .tup [.str "1", .int 2]) n7
    have e7 : upd H6 t7 (.tup [.str "1", .int 2]) t7 = some (.tup [.str "1", .int 2]) := upd_same
    generalize upd H6 t7 (.tup [.str "1", .int 2]) = H7 at *
    walk_at "g"
    refine ⟨by show 2 ≤ sizeLine; decide, fun t8 n8 => ?_⟩
    have s8 := same_upd (o := .tup [.int 1, .str "2"]) n8
    have e8 : upd H7 t8 (.tup [.int 1, .str "2"]) t8 = some (.tup [.int 1, .str "2"]) := upd_same
    generalize upd H7 t8 (.tup [.int 1, .str "2"]) = H8 at *
    walk_at "g"
    refine ⟨by show 0 ≤ sizeLine; decide, fun t9 n9 => ?_⟩
    have s9 := same_upd (o := .lst []) n9
    have e9 : upd H8 t9 (.lst []) t9 = some (.lst []) := upd_same
    generalize upd H8 t9 (.lst []) = H9 at *
    walk_at "g"
    refine ⟨by show 12 ≤ sizeLine; decide, fun L nL => ?_⟩
    obtain ⟨VS, eVS⟩ : ∃ VS : List V, VS = [.int 5, .non, .str "ab", .ref t1, .ref t2, .ref t3, .ref t4, .ref t5, .ref t6, .ref t7, .ref t8, .ref t9] := ⟨_, rfl⟩
    rw [← eVS]
    have sL := same_upd (o := .lst VS) nL
    have eL : upd H9 L (.lst VS) L = some (.lst VS) := upd_same
    generalize upd H9 L (.lst VS) = HL at *
    have g2 := s1.trans s2
    have g3 := g2.trans s3
    have g4 := g3.trans s4
    have g5 := g4.trans s5
    have g6 := g5.trans s6
    have g7 := g6.trans s7
    have g8 := g7.trans s8
    have s8L := s9.trans sL
    have s7L := s8.trans s8L
    have s6L := s7.trans s7L
    have s5L := s6.trans s6L
    have s4L := s5.trans s5L
    have s3L := s4.trans s4L
    have s2L := s3.trans s3L
    have s1L := s2.trans s2L
    have sA := s1.trans s1L
    have hBL := hB.same sA
    obtain ⟨_, _, hp, _⟩ := id hBL.at_
    walk_at "g"
    refine ⟨_, _, rfl, .inl ⟨_, SqL.of eL, rfl⟩, ?_⟩
    have lVS : VS.length = 12 := by rw [eVS] <;> rfl
    rw [lVS]
    refine ⟨p, q, 12, _, rfl, hBL, by omega, by decide, bigD _ (by decide) (by decide), fun v Hd kd hBd v0 v1 => ?_⟩
    obtain ⟨j, rfl⟩ : ∃ j : Nat, v = (j : Int) := ⟨v.toNat, by omega⟩
    have hj : j < VS.length := by omega
    refine ⟨L, _, (j : Int), VS[j], rfl, rfl, SqL.of (kd _ _ eL (ne_of eL hp (by intro z; cases z))), atI_nat (List.getElem?_eq_getElem hj), ?_⟩
    refine (fun (z : WgS _ _ ∧ _) => k _ _ (sA.kp.trans kd) hBd z.1 z.2) ?_
    have hm : VS[j] ∈ VS := List.getElem_mem hj
    generalize VS[j] = v at *
    have sd : ∀ {u : Addr} {xs : List V}, Sqh HL u xs → Sqh Hd u xs := fun h => h.kpB kd hp
    rw [eVS] at hm
    simp only [List.mem_cons, List.not_mem_nil, or_false] at hm
    rcases hm with rfl | rfl | rfl | rfl | rfl | rfl | rfl | rfl | rfl | rfl | rfl | rfl
    · exact ⟨wg_flat .five (fun u z => nomatch z), fun b o e z => nomatch z⟩
    · exact ⟨wg_flat .non (fun u z => nomatch z), fun b o e z => nomatch z⟩
    · exact ⟨wg_flat .str (fun u z => nomatch z), fun b o e z => nomatch z⟩
    · exact ⟨wg_len (sd (.inr (s1L _ _ e1))) (by show 1 ≠ 2; decide), fresh_s (Same.refl _) n1⟩
    · exact ⟨wg_len (sd (.inr (s2L _ _ e2))) (by show 3 ≠ 2; decide), fresh_s s1 n2⟩
    · have q := sd (.inr (s3L _ _ e3)); exact ⟨wg_two q (.inl ⟨_, rfl⟩) (.neg q (by decide)), fresh_s g2 n3⟩
    · have q := sd (.inl (s4L _ _ e4)); exact ⟨wg_two q (.inl ⟨_, rfl⟩) (.neg q (by decide +kernel)), fresh_s g3 n4⟩
    · have q := sd (.inr (s5L _ _ e5)); exact ⟨wg_two q (.inl ⟨_, rfl⟩) (.t1 q), fresh_s g4 n5⟩
    · have q := sd (.inr (s6L _ _ e6)); exact ⟨wg_two q (.inr (.inl ⟨_, rfl⟩)) (.t2 q), fresh_s g5 n6⟩
    · have q := sd (.inr (s7L _ _ e7)); exact ⟨wg_two q (.inl ⟨_, rfl⟩) (.s1 q), fresh_s g6 n7⟩
    · have q := sd (.inr (s8L _ _ e8)); exact ⟨wg_two q (.inr (.inr ⟨_, rfl⟩)) (.s2 q), fresh_s g7 n8⟩
    · exact ⟨wg_len (sd (.inl (sL _ _ e9))) (by show 0 ≠ 2; decide), fresh_s g8 n9⟩
end
end Tr

/-! # k01: short ways to make a Numbers. -/
/- wanted: T.d__law_short_right -/
namespace Tr
open PySem L2
/-- steps of a reading that are plain -/
local macro_rules | `(tactic| walk_at "x") => `(tactic| (refine' ⟨_, _, _, _, rfl, rfl, ?k1, ?k2, ?_⟩; (case k1 => exact SqT.of (by assumption)); (case k2 => exact rfl)))
local macro_rules | `(tactic| walk_at "g") => `(tactic| repeat (first | (refine ⟨_, rfl, ?_⟩) | (refine ⟨_, _, rfl, rfl, ?_⟩) | (refine ⟨_, _, rfl, ?_⟩) | (refine ⟨rfl, ?_⟩) | walk_at "x"))


def lamQ : Str := "law.<locals>.<lambda>"
def shQ : Str := "_law_short_right.<locals>.<lambda>"
theorem _root_.L2.Same.extN {H H' : Hp} (s : Same H H') : LamX.ExtN H H' := fun b o h _ => s b o h
theorem tabs_kp {T : List (Addr × Str)} {D : Addr} {H H' : Hp} {o : HO} (t : LamX.Tabs T H) (kp : Kp D H H') (hD : H D = some o) (no : ∀ ps, o ≠ .tbl ps) (nc : ∀ h, o ≠ .ext h) : LamX.Tabs T H' := fun p hp => by
  obtain ⟨ps, h1, h2, h3⟩ := t p hp
  have ne : ∀ {b : Addr} {u : HO}, H b = some u → u ≠ o → b ≠ D := fun hb n e => n (by rw [e, hD] at hb; exact (Option.some.inj hb).symm)
  refine ⟨ps, kp _ _ h1 (ne h1 fun e => no ps e.symm), h2, fun pos cv hc => ?_⟩
  obtain ⟨c, e1, e2⟩ := h3 pos cv hc
  exact ⟨c, e1, kp _ _ e2 (ne e2 fun e => nc _ e.symm)⟩
theorem tabs_kpl {T : List (Addr × Str)} {D : Addr} {H H' : Hp} {xs : List V} (t : LamX.Tabs T H) (kp : Kp D H H') (hD : H D = some (.lst xs)) : LamX.Tabs T H' := tabs_kp t kp hD (fun _ => by intro z; cases z) (fun _ => by intro z; cases z)
theorem tabs_kpB {T : List (Addr × Str)} {D : Addr} {H H' : Hp} {kvs : List (Key × V)} (t : LamX.Tabs T H) (kp : Kp D H H') (hD : H D = some (.dK kvs)) : LamX.Tabs T H' := tabs_kp t kp hD (fun _ => by intro z; cases z) (fun _ => by intro z; cases z)
theorem Bag.ext {p q : Addr} {H H' : Hp} {N : Nat} (h : Bag H p q N) (e : LamX.ExtN H H') : Bag H' p q N := by
  obtain ⟨ns, a, d, c, f, e1, e2, r⟩ := h.ex
  exact ⟨ns, a, d, c, f, e _ _ e1 (by intro _ z; cases z), e _ _ e2 (by intro _ z; cases z), r⟩
def LamM (K : PySem.W.Frag) (mg : Str → Option Value) (x : Str) (st : Stmt) (c : Addr) : Prop := ∃ f fd, Fun K x x st f fd ∧ mg x = some (.ref f) ∧ fd.code = .ref c
/-- what stands: the bag, the table -/
structure S1 (p q Pt : Addr) (N : Nat) (H : Hp) : Prop where
  bag : Bag H p q N
  tab : LamX.Tabs [(Pt, shQ)] H
theorem S1.same {p q Pt : Addr} {N : Nat} {H H' : Hp} (h : S1 p q Pt N H) (s : Same H H') : S1 p q Pt N H' := ⟨h.bag.same s, h.tab.ext fun b o e => s b o e⟩
theorem S1.go {p q Pt : Addr} {N M : Nat} {H H' : Hp} (h : S1 p q Pt N H) (k : Kp p H H') (hB : Bag H' p q M) : S1 p q Pt M H' :=
  let ⟨_, _, hp, _⟩ := id h.bag.at_
  ⟨hB, tabs_kpB h.tab k hp⟩
theorem three_at {K : PySem.W.Frag} {H : Hp} {r m : Int} {w : V} (hw : IsW K H w false) {a : Nat} (ha : a < 3) : ∃ (x0 x1 x2 : V) (o0 o1 o2 : Option Int), [V.int r, .int m, .int r].set a w = [x0, x1, x2] ∧ P2 (InV K H) [x0, x1, x2, .non] [o0, o1, o2, none] ∧ [o0, o1, o2, none][a]? = some none ∧ ∀ j, j < a → [o0, o1, o2, none][j]? ≠ some none := by
  have n3 : InV K H .non none := isW_non
  rcases (show a = 0 ∨ a = 1 ∨ a = 2 by omega) with rfl | rfl | rfl
  · exact ⟨_, _, _, none, some m, some r, rfl, .cons hw (.cons rfl (.cons rfl (.cons n3 .nil))), rfl, fun j hj => by omega⟩
  · refine ⟨_, _, _, some r, none, some r, rfl, .cons rfl (.cons hw (.cons rfl (.cons n3 .nil))), rfl, fun j hj e => ?_⟩
    obtain rfl : j = 0 := by omega
    cases e
  · refine ⟨_, _, _, some r, some m, none, rfl, .cons rfl (.cons rfl (.cons hw (.cons n3 .nil))), rfl, fun j hj e => ?_⟩
    rcases (show j = 0 ∨ j = 1 by omega) with rfl | rfl <;> cases e
theorem first_one {os : List (Option Int)} {i j : Nat} (h1 : os[i]? = some none) (h2 : ∀ k, k < i → os[k]? ≠ some none) (g1 : os[j]? = some none) (g2 : ∀ k, k < j → os[k]? ≠ some none) : i = j := by
  rcases Nat.lt_trichotomy i j with h | h | h
  · exact (g2 i h h1).elim
  · exact h
  · exact (h2 j h g1).elim
theorem some_none {α : Type} {l : List α} {i : Nat} : (l.map some)[i]? ≠ some none := fun e => by
  rw [List.getElem?_map] at e
  cases q : l[i]? with
  | none => rw [q] at e; cases e
  | some c => rw [q] at e; cases e
theorem p2_int {K : PySem.W.Frag} {H : Hp} : ∀ {ns : List Int}, P2 (InV K H) (ns.map V.int) (ns.map some)
  | [] => .nil
  | _ :: _ => .cons rfl p2_int
/-- what is asked of `of` with right integers -/
theorem ofI {K : PySem.W.Frag} {H : Hp} {ns : List Int} {Q : VK} {E : XK} (hl : ns.length < 64) (k : ∀ x H', Same H H' → MkN K H' x (ns.map fun n => (n, 0)) → Q (.ref x) H') : spStar (spOfT K) (ns.map V.int) H Q E := by
  refine ⟨Nat.le_trans (Nat.le_of_lt (by rw [List.length_map]; exact hl)) (show 64 ≤ sizeLine by decide), fun p np => ⟨p, _, ns.map some, rfl, SqT.of upd_same, p2_int, by rw [List.length_map]; exact hl, fun ns' x H' e s' hM => ?_, fun i cls d H' s' e => (some_none e).elim⟩⟩
  obtain rfl := some_inj e
  exact k x H' ((same_upd np).trans s') hM
theorem ixNn {n j : Nat} (hj : j < n) : ixN n (j : Int) = some j := by
  unfold ixN
  rw [if_pos (by omega), if_pos (by omega)]
  rfl
theorem bd5 {m : Int} (h0 : -4 ≤ m) (h1 : m ≤ 4) : Bd 8000 m := Bd.mono (n := 5) (by show m.natAbs < 2 ^ 5; omega) (by decide)
theorem dv0 {L : Int} {ns : List Int} : Dv L (ns.map fun n => (n, 0)) := fun c hc => by
  obtain ⟨n, _, rfl⟩ := List.mem_map.mp hc
  exact .inl rfl
section
variable {P : Program} [PM : PMain P] {w : World} {K : PySem.W.Frag} {mg : Str → Option Value} {base : Heap}
theorem calT {x : Str} {st : Stmt} {N ps : List Str} {k : Nat} {sp : Sp} {c : Addr} (D : LamM K mg x st c) (S : FnScope N ps (defScope st)) (len : ∀ vs H Q E, sp vs H Q E → vs.length = ps.length)
    (hb : ∀ (kV doc pm : Value) (an : Option Addr) (cdv ct : Value) (us : List Value), us.length = ps.length → bindArgs (PySem.W.fnOf x x (defArgs st) (defBody st) (defScope st) .none kV doc pm an cdv ct) ⟨us, []⟩ = pure (ps.zip us))
    (hbody : ∀ (f : Addr) (A : Around) (outer : List Env) (s : Shared) (H : Hp) (vs : List V) (Q : VK) (E : XK), Room k (A.deeper (PyProof.Rows.envOfC x (defScope st) s.heap.objs.size f (.ref c))) → sp vs H Q E →
      ∃ t, PSs (cxOf (L2.CX P w) P w K mg base N x (defScope st) f (.ref c) A outer s H E).nox (defBody st) t ∧ t { nx := fun _ H' => Q .non H', rt := Q } (start N vs) H) : Cal P w K mg base (k + 1) x sp [] :=
  let ⟨f, fd, F, hm, hc⟩ := D
  ⟨f, fd, ps, [], okT F hc S len (hbody f), hm, F.kp, F.binds hb, .nil⟩
def spShort (K : PySem.W.Frag) (Pt : Addr) : Sp := fun vs H Q _ => ∃ (p q : Addr) (N : Nat), vs = [.ref p] ∧ S1 p q Pt N H ∧ N < 900000 ∧ ∀ H', Q (.bl true) H'
theorem c__law_short_right (T : Txt K mg) {c Pt : Addr} (D : LamM K mg "_law_short_right" s__law_short_right c) (TB : LamX.TabB base mg c Pt) : Cal P w K mg base 76 "_law_short_right" (spShort K Pt) [] := by
  have c__law_draw := @c__law_draw P w K mg base T
  have m_Numbers := @m_NumA P PM w K mg base T
  obtain ⟨d0, m_Numbers0⟩ := @m_Num0A P PM w K mg base T
  have s_class_of := @s_class_of P PM w K mg base T
  have s_single := @s_single P PM w K mg base T
  have s_every := @s_every P PM w K mg base T
  have s_of := @s_of P PM w K mg base T
  have c_eqM := @c_eqM P w K mg base T
  refine calT D sc__law_short_right (fun vs H Q E h => ?_) (fun _ _ _ _ _ _ us hl => match us, hl with | [_], _ => rfl) (fun f A outer s H vs Q E hr h => ?_)
  · obtain ⟨p, q, N, rfl, _⟩ := h
    rfl
  · obtain ⟨p, q, N, rfl, h0, hN, k⟩ := h
    refine ⟨_, (pss_cons (ps_asg (pe_tup (pa_cons (pe_op op_sub (pe_cx c__law_draw hr (by first | decide | omega) rfl passL (pa_cons (pv 0) (pa_cons pe_int pa_nil))) pe_int) (pa_cons (pe_op op_sub (pe_cx c__law_draw hr (by first | decide | omega) rfl passL (pa_cons (pv 0) (pa_cons pe_int pa_nil))) pe_int) pa_nil))) (pg_tup rfl (pgs_cons (pg_name (i := 1) sc__law_short_right.nd rfl (Or.inr rfl)) (pgs_cons (pg_name (i := 2) sc__law_short_right.nd rfl (Or.inr rfl)) pgs_nil))))
      (C8.pss_cut (ps_if (pt_cmpR op_ne (pe_lam1 (q := shQ) (k := 30) (by rfl) T.d__law_told sc__law_told rfl (by first | exact .inl rfl | exact .inr (.inl rfl)) (fun _ _ _ _ _ _ us hl => match us, hl with | [_], _ => rfl) (fun g cdg => told_d T) (by rfl) TB rfl hr (by first | decide | omega) (LamX.lamS_by (sc := defScope s__law_short_right) (by decide +kernel)) rfl (fun _ _ _ _ _ => rfl) (fun A outer s H E f c' hr => (pe_sta s_class_of hr (by first | decide | omega) (passE rfl rfl rfl rfl) (pe_glob (v := .ref (He.ga K "Numbers")) (by rfl) T.v_Numbers rfl) (pa_cons (pv 1) (pa_cons (pv 2) pa_nil))))) (pe_ifExp (pt_cmpR op_lt (pv 2) pe_int (nomark _)) pe_int pe_non) (nomark _)) (pss_one (ps_ret pe_bl)) pss_nil)
      (C8.pss_cut (ps_if (PW.pt (pw_and (pt_cmpR op_gt (pv 2) pe_int (nomark _)) (pw_and1 (pt_cmpR (or_neO c_eqM T.n_Numbers hr (by first | decide | omega) passL) (pe_sta s_class_of hr (by first | decide | omega) passL (pe_glob (v := .ref (He.ga K "Numbers")) (by rfl) T.v_Numbers rfl) (pa_cons (pv 1) (pa_cons (pv 2) pa_nil))) (pe_mkx m_Numbers hr (by first | decide | omega) rfl passL (pa_cons (pe_lst (pa_cons (pe_tup (pa_cons (pv 1) (pa_cons (pv 2) pa_nil))) pa_nil)) pa_nil)) (nomark _))))) (pss_one (ps_ret pe_bl)) pss_nil)
      (pss_cons (ps_set (i := 3) sc__law_short_right.nd rfl (Or.inr rfl) (pe_lst (pa_cons (pv 1) (pa_cons (pv 2) (pa_cons (pv 1) pa_nil)))))
      (pss_cons (ps_if (PW.pt (pw_or (pt_cmpR (or_neO c_eqM T.n_Numbers hr (by first | decide | omega) passL) (pe_staR s_of hr (by first | decide | omega) passL (pe_glob (v := .ref (He.ga K "Numbers")) (by rfl) T.v_Numbers rfl) (pa_cons (pe_ix (ix_listK K) (pv 3) pe_int (fun _ _ => rfl)) (pa_cons (pe_ix (ix_listK K) (pv 3) pe_int (fun _ _ => rfl)) (pa_cons (pe_ix (ix_listK K) (pv 3) pe_int (fun _ _ => rfl)) pa_nil)))) (pe_mkx m_Numbers hr (by first | decide | omega) rfl passL (pa_cons (pe_lst (pa_cons (pe_tup (pa_cons (pv 1) (pa_cons pe_int pa_nil))) (pa_cons (pe_tup (pa_cons (pv 2) (pa_cons pe_int pa_nil))) pa_nil))) pa_nil)) (nomark _)) (pw_or1 (pt_cmpR (or_neO c_eqM T.n_Numbers hr (by first | decide | omega) passL) (pe_staR s_of hr (by first | decide | omega) passL (pe_glob (v := .ref (He.ga K "Numbers")) (by rfl) T.v_Numbers rfl) (pa_cons (pv 2) pa_nil)) (pe_sta s_single hr (by first | decide | omega) passL (pe_glob (v := .ref (He.ga K "Numbers")) (by rfl) T.v_Numbers rfl) (pa_cons (pv 2) pa_nil)) (nomark _))))) (pss_one (ps_ret pe_bl)) pss_nil)
      (pss_cons (ps_set (i := 4) sc__law_short_right.nd rfl (Or.inl rfl) (pe_cx c__law_draw hr (by first | decide | omega) rfl passL (pa_cons (pv 0) (pa_cons pe_int pa_nil))))
      (pss_cons (ps_asg (pe_ix (ix_listK K) (pe_lst (pa_cons pe_non (pa_cons pe_bl (pa_cons pe_str (pa_cons (pe_tup (pa_cons pe_int (pa_cons pe_int pa_nil))) pa_nil))))) (pe_cx c__law_draw hr (by first | decide | omega) rfl passL (pa_cons (pv 0) (pa_cons pe_int pa_nil))) (fun _ _ => rfl)) (pg_sub (pv 3) (pv 4) set_list))
      (pss_cons (ps_if (PW.pt (pw_or (pt_cmpR op_ne (pe_lam1 (q := shQ) (k := 30) (by rfl) T.d__law_told sc__law_told rfl (by first | exact .inl rfl | exact .inr (.inl rfl)) (fun _ _ _ _ _ _ us hl => match us, hl with | [_], _ => rfl) (fun g cdg => told_d T) (by rfl) TB rfl hr (by first | decide | omega) (LamX.lamS_by (sc := defScope s__law_short_right) (by decide +kernel)) rfl (fun _ _ _ _ _ => rfl) (fun A outer s H E f c' hr => (pe_staR s_of hr (by first | decide | omega) (passE rfl rfl rfl rfl) (pe_glob (v := .ref (He.ga K "Numbers")) (by rfl) T.v_Numbers rfl) (pa_cons (pe_ix (ix_listK K) (pv 3) pe_int (fun _ _ => rfl)) (pa_cons (pe_ix (ix_listK K) (pv 3) pe_int (fun _ _ => rfl)) (pa_cons (pe_ix (ix_listK K) (pv 3) pe_int (fun _ _ => rfl)) (pa_cons pe_non pa_nil))))))) (pv 4) (nomark _)) (pw_or1 (pt_cmpR (or_neO c_eqM T.n_Numbers hr (by first | decide | omega) passL) (pe_staR0 s_of hr (by first | decide | omega) passL (pe_glob (v := .ref (He.ga K "Numbers")) (by rfl) T.v_Numbers rfl)) (pe_mkx0 m_Numbers0 hr (by first | decide | omega) rfl passL) (nomark _))))) (pss_one (ps_ret pe_bl)) pss_nil)
      (pss_one (ps_ret (pe_and (pe_cmpR (or_eqO c_eqM hr (by first | decide | omega) passL) (pe_sta s_single hr (by first | decide | omega) passL (pe_glob (v := .ref (He.ga K "Numbers")) (by rfl) T.v_Numbers rfl) (pa_cons (pv 1) pa_nil)) (pe_mkx m_Numbers hr (by first | decide | omega) rfl passL (pa_cons (pe_lst (pa_cons (pe_tup (pa_cons (pv 1) (pa_cons pe_int pa_nil))) pa_nil)) pa_nil)) (nomark _)) (pe_one (pe_cmpR (or_eqO c_eqM hr (by first | decide | omega) passL) (pe_sta0 s_every hr (by first | decide | omega) passL (pe_glob (v := .ref (He.ga K "Numbers")) (by rfl) T.v_Numbers rfl)) (pe_mkx m_Numbers hr (by first | decide | omega) rfl passL (pa_cons (pe_lst (pa_cons (pe_tup (pa_cons (pv 1) (pa_cons pe_int pa_nil))) pa_nil)) pa_nil)) (nomark _)))))))))))))), ?_⟩
    generalize hσ : L2.start _ _ = σ0
    obtain rfl : σ0 = [some (.ref p), none, none, none, none] := hσ.symm
    clear hσ
    walk_at "g"
    refine ⟨p, q, 9, _, rfl, h0.bag, by omega, by decide, bigD _ (by decide) (by decide), fun v1 H1 k1 hB1 v10 v11 => ?_⟩
    have z1 := h0.go k1 hB1
    walk_at "g"
    refine ⟨p, q, 9, _, rfl, z1.bag, by omega, by decide, bigD _ (by decide) (by decide), fun v2 H2 k2 hB2 v20 v21 => ?_⟩
    have z2 := z1.go k2 hB2
    clear z1 h0 k1 k2 hB1 hB2
    walk_at "g"
    refine ⟨by show 2 ≤ sizeLine; decide, fun tt ntt => ?_⟩
    refine ⟨tt, _, rfl, SqT.of upd_same, rfl, _, _, rfl, _, _, rfl, rfl, ?_⟩
    have s3 := same_upd (o := .tup [(fun i j => V.int (i - j)) v1 4, (fun i j => V.int (i - j)) v2 4]) ntt
    have z3 := z2.same s3
    generalize hσ : List.set (List.set _ 1 _) 2 _ = σ0
    obtain rfl : σ0 = [some (.ref p), some (.int (v1 - 4)), some (.int (v2 - 4)), none, none] := hσ.symm
    clear hσ z2
    generalize upd H2 tt (.tup [(fun i j => V.int (i - j)) v1 4, (fun i j => V.int (i - j)) v2 4]) = H3 at *
    have r0 : -4 ≤ v1 - 4 ∧ v1 - 4 ≤ 4 := by omega
    have m0 : -4 ≤ v2 - 4 ∧ v2 - 4 ≤ 4 := by omega
    generalize v1 - 4 = r at *
    generalize v2 - 4 = m at *
    clear s3 ntt v10 v11 v20 v21
    refine ⟨fun σ' H' => σ' = [some (.ref p), some (.int r), some (.int m), none, none] ∧ S1 p q Pt (N + 1 + 1) H', ?_, ?_⟩
    · walk_at "g"
      refine ⟨z3.tab, fun H4 x4 tab4 => ?_⟩
      have z4 : S1 p q Pt (N + 1 + 1) H4 := ⟨z3.bag.ext x4, tab4⟩
      unfold TTi
      walk_at "g"
      refine ⟨bd5 m0.1 m0.2, fun hm cls d H5 s5 hb => ⟨0, hb, ?_⟩, fun hm x H5 s5 hM => ?_⟩
      · walk_at "g"
        rw [decide_eq_true hm]
        walk_at "g"
        exact z4.same s5
      · walk_at "g"
        rw [decide_eq_false (show ¬ m < 1 by omega)]
        walk_at "g"
        exact z4.same s5
    rintro σ H4 ⟨rfl, z4⟩
    refine ⟨fun σ' H' => σ' = [some (.ref p), some (.int r), some (.int m), none, none] ∧ S1 p q Pt (N + 1 + 1) H', ?_, ?_⟩
    · walk_at "g"
      refine iteB (fun c1 => ?_) (fun c1 => ?_)
      · have hm := of_decide_eq_true c1
        walk_at "g"
        refine ⟨bd5 m0.1 m0.2, fun h => (by omega), fun _ x H5 s5 hM => ?_⟩
        walk_at "g"
        refine ⟨by show 2 ≤ sizeLine; decide, fun t nt => ?_⟩
        walk_at "g"
        refine ⟨by show 1 ≤ sizeLine; decide, fun l nl => ?_⟩
        have s6 := (same_upd (o := .tup [.int r, .int m]) nt).trans (same_upd (o := .lst [.ref t]) nl)
        walk_at "g"
        intro y dy ny ndy _
        refine nA ny ndy (.inl (SqL.of upd_same)) (cs := [(r, m)]) (.cons ⟨t, rfl, .inr ((same_upd nl) _ _ upd_same)⟩ .nil) (fun c hc => by rw [List.mem_singleton.mp hc]; exact ⟨by show (0 : Int) ≤ m; omega, bd5 m0.1 m0.2⟩) (by show 1 < 64; decide) fun H7 s7 hM2 _ => ⟨rfl, ?_⟩
        have dv : Dv m [(r, m)] := fun c hc => by rw [List.mem_singleton.mp hc]; exact .inr ⟨hm, Int.dvd_refl _⟩
        refine st_same ((hM.same s6).same s7) hM2 hm (Bd.mono (n := 5) (by show m.natAbs < 2 ^ 5; omega) (by decide)) dv dv (by show 1 < 64; decide) (by show 1 < 64; decide) (fun _ => Iff.rfl) fun H8 s8 => ?_
        walk_at "g"
        exact (((z4.same s5).same s6).same s7).same s8
      · refine iteF ?_
        exact ⟨rfl, z4⟩
    rintro σ H5 ⟨rfl, z5⟩
    walk_at "g"
    refine ⟨by show 3 ≤ sizeLine; decide, fun l3 nl3 => ?_⟩
    have s6 := same_upd (o := .lst [.int r, .int m, .int r]) nl3
    have hl3 : upd H5 l3 (.lst [.int r, .int m, .int r]) l3 = some (.lst [.int r, .int m, .int r]) := upd_same
    have z6 := z5.same s6
    have nq : l3 ≠ q := by
      obtain ⟨_, _, _, hq5⟩ := id z5.bag.at_
      exact (ne_of_none hq5 nl3).symm
    generalize upd H5 l3 (.lst [.int r, .int m, .int r]) = H6 at *
    clear z5 s6 nl3
    walk_at "g"
    refine ⟨l3, _, 0, _, rfl, rfl, SqL.of hl3, atI_nat (j := 0) rfl, ?_⟩
    walk_at "g"
    refine ⟨l3, _, 1, _, rfl, rfl, SqL.of hl3, atI_nat (j := 1) rfl, ?_⟩
    walk_at "g"
    refine ⟨l3, _, 2, _, rfl, rfl, SqL.of hl3, atI_nat (j := 2) rfl, ?_⟩
    walk_at "g"
    refine ofI (ns := [r, m, r]) (by show 3 < 64; decide) fun x H7 s7 hM => ?_
    have hl7 := s7 _ _ hl3
    have z7 := z6.same s7
    clear z6 hl3 s7
    walk_at "g"
    refine ⟨by show 2 ≤ sizeLine; decide, fun t1 nt1 => ?_⟩
    walk_at "g"
    refine ⟨by show 2 ≤ sizeLine; decide, fun t2 nt2 => ?_⟩
    walk_at "g"
    refine ⟨by show 2 ≤ sizeLine; decide, fun l nl => ?_⟩
    have s8 := ((same_upd (o := .tup [.int r, .int 0]) nt1).trans (same_upd (o := .tup [.int m, .int 0]) nt2)).trans (same_upd (o := .lst [.ref t1, .ref t2]) nl)
    have q1 := ((same_upd (o := .tup [.int m, .int 0]) nt2).trans (same_upd (o := .lst [.ref t1, .ref t2]) nl)) t1 _ (upd_same (H := H7) (a := t1) (o := .tup [.int r, .int 0]))
    have q2 := (same_upd (o := .lst [.ref t1, .ref t2]) nl) t2 _ (upd_same (H := upd H7 t1 (.tup [.int r, .int 0])) (a := t2) (o := .tup [.int m, .int 0]))
    walk_at "g"
    intro y dy ny ndy _
    refine nA ny ndy (.inl (SqL.of upd_same)) (cs := [r, m].map fun n => (n, 0)) (.cons ⟨t1, rfl, .inr q1⟩ (.cons ⟨t2, rfl, .inr q2⟩ .nil)) (fun c hc => by
      obtain ⟨n, _, rfl⟩ := List.mem_map.mp hc
      exact ⟨Int.le_refl _, bd5 (show (-4 : Int) ≤ 0 by decide) (show (0 : Int) ≤ 4 by decide)⟩) (by show 2 < 64; decide) fun H9 s9 hM2 _ => ⟨rfl, ?_⟩
    refine st_same ((hM.same s8).same s9) hM2 (L := 1) (by decide) (Bd.mono (n := 5) (by show (1 : Int).natAbs < 2 ^ 5; decide) (by decide)) dv0 dv0 (by show 3 < 64; decide) (by show 2 < 64; decide) (fun n => cov_perm (fun c => ?_) n) fun H10 s10 => ?_
    · simp only [List.map_cons, List.map_nil, List.mem_cons, List.not_mem_nil, or_false]
      constructor
      · rintro (h | h | h)
        · exact .inl h
        · exact .inr h
        · exact .inl h
      · rintro (h | h)
        · exact .inl h
        · exact .inr (.inl h)
    have sA := (s8.trans s9).trans s10
    have hlA := sA _ _ hl7
    have zA := z7.same sA
    clear hM hM2 s8 s9 s10 sA q1 q2 nt1 nt2 nl ny ndy z7 hl7
    walk_at "g"
    refine ofI (ns := [m]) (by show 1 < 64; decide) fun x2 H11 s11 hM => ?_
    walk_at "g"
    refine fun x3 H12 s12 hM2 => ?_
    walk_at "g"
    refine st_same (hM.same s12) hM2 (L := 1) (by decide) (Bd.mono (n := 5) (by show (1 : Int).natAbs < 2 ^ 5; decide) (by decide)) dv0 (dv0 (ns := [m])) (by show 1 < 64; decide) (by show 1 < 64; decide) (fun n => Iff.rfl) fun H13 s13 => ?_
    have sB := (s11.trans s12).trans s13
    have hlB := sB _ _ hlA
    have zB := zA.same sB
    clear hM hM2 s11 s12 s13 sB zA hlA
    walk_at "g"
    refine ⟨p, q, 3, _, rfl, zB.bag, by omega, by decide, bigD _ (by decide) (by decide), fun va Ha ka hBa a0 a1 => ?_⟩
    obtain ⟨a, rfl⟩ : ∃ a : Nat, va = (a : Int) := ⟨va.toNat, by omega⟩
    have a3 : a < 3 := by omega
    have za := zB.go ka hBa
    obtain ⟨_, _, hpB, _⟩ := id zB.bag.at_
    have hla := ka _ _ hlB (ne_of hlB hpB (by intro z; cases z))
    clear zB hlB ka hBa hpB
    walk_at "g"
    refine ⟨by show 2 ≤ sizeLine; decide, fun t nt => ?_⟩
    have s1 := same_upd (o := .tup [.int 1, .int 0]) nt
    have ht : upd Ha t (.tup [.int 1, .int 0]) t = some (.tup [.int 1, .int 0]) := upd_same
    generalize upd Ha t (.tup [.int 1, .int 0]) = Hb at *
    walk_at "g"
    refine ⟨by show 4 ≤ sizeLine; decide, fun l4 nl4 => ?_⟩
    have s2 := same_upd (o := .lst [.non, .bl true, .str "1", .ref t]) nl4
    have hl4 : upd Hb l4 (.lst [.non, .bl true, .str "1", .ref t]) l4 = some (.lst [.non, .bl true, .str "1", .ref t]) := upd_same
    generalize upd Hb l4 (.lst [.non, .bl true, .str "1", .ref t]) = Hc at *
    have zc := za.same (s1.trans s2)
    have hlc := (s1.trans s2) _ _ hla
    have htc := s2 _ _ ht
    obtain ⟨_, _, hpc, _⟩ := id zc.bag.at_
    clear za hla ht s1 s2 nt nl4
    walk_at "g"
    refine ⟨p, q, 4, _, rfl, zc.bag, by omega, by decide, bigD _ (by decide) (by decide), fun vb Hd kd hBd b0 b1 => ?_⟩
    obtain ⟨b, rfl⟩ : ∃ b : Nat, vb = (b : Int) := ⟨vb.toNat, by omega⟩
    have zd := zc.go kd hBd
    have hld := kd _ _ hlc (ne_of hlc hpc (by intro z; cases z))
    have htd := kd _ _ htc (ne_of htc hpc (by intro z; cases z))
    have hl4d := kd _ _ hl4 (ne_of hl4 hpc (by intro z; cases z))
    clear zc hlc htc hl4 kd hBd hpc
    obtain ⟨wv, hwv, iw⟩ : ∃ wv : V, [V.non, .bl true, .str "1", .ref t][b]? = some wv ∧ ∀ H' : Hp, H' t = some (.tup [.int 1, .int 0]) → IsW K H' wv false := by
      rcases (show b = 0 ∨ b = 1 ∨ b = 2 ∨ b = 3 by omega) with rfl | rfl | rfl | rfl
      · exact ⟨_, rfl, fun _ _ => isW_non⟩
      · exact ⟨_, rfl, fun _ _ => isW_bl _⟩
      · exact ⟨_, rfl, fun _ _ => isW_str _⟩
      · exact ⟨_, rfl, fun _ h => isW_sq (.inr h)⟩
    refine ⟨l4, _, (b : Int), wv, rfl, rfl, SqL.of hl4d, atI_nat hwv, ?_⟩
    clear hl4d hwv
    walk_at "g"
    refine ⟨l3, _, (a : Int), a, rfl, rfl, hld, ixNn (by show a < 3; exact a3), ?_⟩
    have ke := kp_upd l3 Hd (.lst ([V.int r, .int m, .int r].set a wv))
    have hle : upd Hd l3 (.lst ([V.int r, .int m, .int r].set a wv)) l3 = some (.lst ([V.int r, .int m, .int r].set a wv)) := upd_same
    have hte := ke _ _ htd (ne_of htd hld (by intro z; cases z))
    have ze : S1 p q Pt _ (upd Hd l3 (.lst ([V.int r, .int m, .int r].set a wv))) := ⟨zd.bag.wr (fun e => by obtain ⟨_, _, hpd, _⟩ := id zd.bag.at_; rw [e, hpd] at hld; cases hld) nq, tabs_kpl zd.tab ke hld⟩
    generalize upd Hd l3 (.lst ([V.int r, .int m, .int r].set a wv)) = He' at *
    clear zd hld htd ke
    walk_at "g"
    refine ⟨ze.tab, fun Hf xf tabf => ?_⟩
    have hlf := xf _ _ hle (by intro _ z; cases z)
    have htf := xf _ _ hte (by intro _ z; cases z)
    obtain ⟨x0, x1, x2, o0, o1, o2, ex, pf, g1, g2⟩ := three_at (r := r) (m := m) (iw Hf htf) a3
    rw [ex] at hlf
    clear ze hle hte htf xf iw ex
    unfold TTi
    walk_at "g"
    refine ⟨l3, _, 0, _, rfl, rfl, SqL.of hlf, atI_nat (j := 0) rfl, ?_⟩
    walk_at "g"
    refine ⟨l3, _, 1, _, rfl, rfl, SqL.of hlf, atI_nat (j := 1) rfl, ?_⟩
    walk_at "g"
    refine ⟨l3, _, 2, _, rfl, rfl, SqL.of hlf, atI_nat (j := 2) rfl, ?_⟩
    walk_at "g"
    refine ⟨by show 4 ≤ sizeLine; decide, fun pt npt => ⟨pt, _, [o0, o1, o2, none], rfl, SqT.of upd_same, pf.mono fun _ _ e => e.same (same_upd npt), by show 4 < 64; decide, fun ns x H' e s' hM => ?_, fun i cls d H' s' e1 e2 hb => ⟨i, hb, ?_⟩⟩⟩
    · refine (g2 3 ?_ ?_).elim
      · exact absurd (congrArg (fun l : List (Option Int) => l[3]?) e) (fun q => some_none (l := ns) (i := 3) q.symm)
      · exact absurd (congrArg (fun l : List (Option Int) => l[3]?) e) (fun q => some_none (l := ns) (i := 3) q.symm)
    obtain rfl := first_one e1 e2 g1 g2
    clear hlf pf g1 g2 e1 e2 hb tabf
    walk_at "g"
    rw [decide_eq_true (rfl : V.int (i : Int) = V.int (i : Int))]
    walk_at "g"
    refine ofI (ns := []) (by show 0 < 64; decide) fun x4 H14 s14 hM => ?_
    walk_at "g"
    intro y dy ny ndy _
    refine ⟨y, dy, rfl, upd_same, fun ds ns H15 kp hN hne nm => ⟨rfl, ?_⟩⟩
    have s15 := mk_same kp ny ndy
    have B1 : Bd 6000 1 := Bd.mono (n := 5) (by show (1 : Int).natAbs < 2 ^ 5; decide) (by decide)
    refine st_same (hM.same s15) ⟨ds, ns, hN, nm⟩ (L := 1) (by decide) B1 dv0 (dv0 (ns := [])) (by show 0 < 64; decide) (by show 0 < 64; decide) (fun n => Iff.rfl) fun H16 s16 => ?_
    clear hM hN hne nm kp s15 ny ndy
    walk_at "g"
    refine fun x5 H17 s17 hM => ?_
    walk_at "g"
    refine ⟨by show 2 ≤ sizeLine; decide, fun t nt => ?_⟩
    walk_at "g"
    refine ⟨by show 1 ≤ sizeLine; decide, fun l nl => ?_⟩
    have s18 := (same_upd (o := .tup [.int r, .int 0]) nt).trans (same_upd (o := .lst [.ref t]) nl)
    walk_at "g"
    intro y dy ny ndy _
    refine nA ny ndy (.inl (SqL.of upd_same)) (cs := [r].map fun n => (n, 0)) (.cons ⟨t, rfl, .inr ((same_upd nl) _ _ upd_same)⟩ .nil) (fun c hc => by
      obtain ⟨n, _, rfl⟩ := List.mem_map.mp hc
      exact ⟨Int.le_refl _, bd5 (show (-4 : Int) ≤ 0 by decide) (show (0 : Int) ≤ 4 by decide)⟩) (by show 1 < 64; decide) fun H19 s19 hM2 _ => ⟨rfl, ?_⟩
    refine st_same ((hM.same s18).same s19) hM2 (L := 1) (by decide) B1 (dv0 (ns := [r])) dv0 (by show 1 < 64; decide) (by show 1 < 64; decide) (fun n => Iff.rfl) fun H20 s20 => ?_
    clear hM hM2 s18 s19 ny ndy nt nl
    walk_at "g"
    refine fun x6 H21 s21 hM => ?_
    walk_at "g"
    refine ⟨by show 2 ≤ sizeLine; decide, fun t nt => ?_⟩
    walk_at "g"
    refine ⟨by show 1 ≤ sizeLine; decide, fun l nl => ?_⟩
    have s22 := (same_upd (o := .tup [.int r, .int 1]) nt).trans (same_upd (o := .lst [.ref t]) nl)
    walk_at "g"
    intro y dy ny ndy _
    refine nA ny ndy (.inl (SqL.of upd_same)) (cs := [(r, 1)]) (.cons ⟨t, rfl, .inr ((same_upd nl) _ _ upd_same)⟩ .nil) (fun c hc => by
      rw [List.mem_singleton.mp hc]
      exact ⟨by show (0 : Int) ≤ 1; decide, bd5 (show (-4 : Int) ≤ 1 by decide) (show (1 : Int) ≤ 4 by decide)⟩) (by show 1 < 64; decide) fun H23 s23 hM2 _ => ⟨rfl, ?_⟩
    have dv1 : ∀ z : Int, Dv 1 [(z, 1)] := fun z c hc => by rw [List.mem_singleton.mp hc]; exact .inr ⟨by show (0 : Int) < 1; decide, Int.dvd_refl _⟩
    have cv1 : ∀ z n : Int, cov [(z, 1)] n := fun z n => ⟨(z, 1), List.mem_singleton.mpr rfl, Int.one_dvd _⟩
    refine st_same ((hM.same s22).same s23) hM2 (L := 1) (by decide) B1 (dv1 0) (dv1 r) (by show 1 < 64; decide) (by show 1 < 64; decide) (fun n => ⟨fun _ => cv1 _ _, fun _ => cv1 _ _⟩) fun H24 s24 => ?_
    walk_at "g"
    exact k _
end
end Tr

/-! # k01: the law, from right parts on. -/
namespace Tr
open PySem L2
/-- steps of a reading that are plain -/
local macro_rules | `(tactic| walk_at "x") => `(tactic| (refine' ⟨_, _, _, _, rfl, rfl, ?k1, ?k2, ?_⟩; (case k1 => exact SqT.of (by assumption)); (case k2 => exact rfl)))
local macro_rules | `(tactic| walk_at "g") => `(tactic| repeat (first | (refine ⟨_, rfl, ?_⟩) | (refine ⟨_, _, rfl, rfl, ?_⟩) | (refine ⟨_, _, rfl, ?_⟩) | (refine ⟨rfl, ?_⟩) | walk_at "x"))


theorem call_list_ofK {X : Cx} (K : PySem.W.Frag) (hk : X.K = K := by rfl) : CallR X (.type "list") (fun xs H Q => ∃ p ys, xs = [.ref p] ∧ (SqL K H p ys ∨ SqT K H p ys) ∧ ∀ l, H l = none → Q (.ref l) (upd H l (.lst ys))) := by
  subst hk
  exact call_list_of
theorem call_tuple_ofK {X : Cx} (K : PySem.W.Frag) (hk : X.K = K := by rfl) : CallR X (.type "tuple") (fun xs H Q => ∃ p ys, xs = [.ref p] ∧ ((SqL K H p ys ∧ ∀ t, H t = none → Q (.ref t) (upd H t (.tup ys))) ∨ (SqT K H p ys ∧ Q (.ref p) H))) := by
  subst hk
  exact call_tuple_of
theorem p2_zip {α β : Type} {R : α → β → Prop} : ∀ {us : List α} {cs : List β}, P2 R us cs → ∃ W : List (α × β), us = W.map (·.1) ∧ cs = W.map (·.2) ∧ ∀ w ∈ W, R w.1 w.2
  | _, _, .nil => ⟨[], rfl, rfl, fun _ h => nomatch h⟩
  | u :: _, c :: _, .cons h t => by
    obtain ⟨W, rfl, rfl, hW⟩ := p2_zip t
    refine ⟨(u, c) :: W, rfl, rfl, fun w hw => ?_⟩
    rcases List.mem_cons.mp hw with rfl | hw
    · exact h
    · exact hW w hw
/-- a value that is neither the thing at D nor that at q -/
def NoD (D q : Addr) (v : V) : Prop := v ≠ .ref D ∧ v ≠ .ref q
theorem NuNe.same {C a u dx : Addr} {H H' : Hp} {fs : List (Str × V)} (s : Same H H') (h : H a = some (.ins C dx fs)) (n : NuNe H a u) : NuNe H' a u := fun C' dx' q1 q2 q => n C' dx' q1 q2 (by rw [s _ _ h] at q; rw [h]; exact q)
/-- what the law hands in: a pair, or a wrong value -/
def ItL (D q : Addr) (H : Hp) (v : V) : Option Cl → Prop
  | some c => NoD D q v ∧ PrS H v c ∧ PrL c
  | none => NoD D q v ∧ WgS H v
theorem Sqh.kpn {D u : Addr} {H H' : Hp} {xs : List V} (k : Kp D H H') (n : u ≠ D) (h : Sqh H u xs) : Sqh H' u xs := h.imp (fun h => k _ _ h n) fun h => k _ _ h n
section
variable {D p q : Addr} {H H' : Hp} {v : V} {o : Option Cl} {kvs : List (Key × V)}
theorem PrS.to {c : Cl} (h : PrS H v c) (k : ∀ u xs, v = .ref u → Sqh H u xs → Sqh H' u xs) : PrS H' v c := let ⟨u, e, q⟩ := h; ⟨u, e, k u _ e q⟩
theorem WgV.toN {v : V} (h : WgV H v) (k : ∀ u xs, v = .ref u → Sqh H u xs → Sqh H' u xs) : WgV H' v := by
  cases h with
  | five => exact .five
  | non => exact .non
  | str => exact .str
  | len h hl => exact .len (k _ _ rfl h) hl
  | neg h n => exact .neg (k _ _ rfl h) n
  | t1 h => exact .t1 (k _ _ rfl h)
  | s1 h => exact .s1 (k _ _ rfl h)
  | t2 h => exact .t2 (k _ _ rfl h)
  | s2 h => exact .s2 (k _ _ rfl h)
theorem WgS.toN (h : WgS H v) (k : ∀ u xs, v = .ref u → Sqh H u xs → Sqh H' u xs) : WgS H' v := ⟨h.wg.toN k, fun u a b e q => by
  subst e
  obtain ⟨xs, hx, nl⟩ : ∃ xs, Sqh H u xs ∧ (xs.length ≠ 2 ∨ ∃ a b, xs = [a, b] ∧ Plv b) := by
    have w := h.wg
    have pl := h.pl u
    cases w with
    | len q hl => exact ⟨_, q, .inl hl⟩
    | neg q _ => exact ⟨_, q, .inr ⟨_, _, rfl, pl _ _ rfl q⟩⟩
    | t1 q => exact ⟨_, q, .inr ⟨_, _, rfl, pl _ _ rfl q⟩⟩
    | s1 q => exact ⟨_, q, .inr ⟨_, _, rfl, pl _ _ rfl q⟩⟩
    | t2 q => exact ⟨_, q, .inr ⟨_, _, rfl, pl _ _ rfl q⟩⟩
    | s2 q => exact ⟨_, q, .inr ⟨_, _, rfl, pl _ _ rfl q⟩⟩
  have e := (k u _ rfl hx).inj q
  subst e
  rcases nl with n | ⟨_, _, e, pb⟩
  · exact (n rfl).elim
  · cases e
    exact pb⟩
theorem ItL.to (h : ItL D q H v o) (k : ∀ u xs, u ≠ D → Sqh H u xs → Sqh H' u xs) : ItL D q H' v o := by
  cases o with
  | some c => exact ⟨h.1, h.2.1.to fun u xs e q => k u xs (fun z => h.1.1 (by rw [e, z])) q, h.2.2⟩
  | none => exact ⟨h.1, h.2.toN fun u xs e q => k u xs (fun z => h.1.1 (by rw [e, z])) q⟩
theorem ItL.same (s : Same H H') (h : ItL D q H v o) : ItL D q H' v o := h.to fun _ _ _ q => q.same s
theorem ItL.kpB (k : Kp p H H') (hp : H p = some (.dK kvs)) (h : ItL D q H v o) : ItL D q H' v o := h.to fun _ _ _ q => q.kpB k hp
theorem ItL.kpD (k : Kp D H H') (h : ItL D q H v o) : ItL D q H' v o := h.to fun _ _ n q => q.kpn k n
theorem ItL.ext (e : LamX.ExtN H H') (h : ItL D q H v o) : ItL D q H' v o := h.to fun _ _ _ q => q.imp (fun h => e _ _ h (by intro _ z; cases z)) fun h => e _ _ h (by intro _ z; cases z)
theorem ItL.itp {K : PySem.W.Frag} (h : ItL D q H v o) : ItP K H v o := by
  cases o with
  | some c => exact let ⟨u, e, q⟩ := h.2.1; ⟨u, e, q, h.2.2.dv.elim (fun e => Int.le_of_eq e.symm) fun e => Int.le_of_lt e.1⟩
  | none => exact h.2.wr
end
theorem cs_of {D q : Addr} {H : Hp} : ∀ {vs : List V} {os : List (Option Cl)}, P2 (ItL D q H) vs os → (∀ o ∈ os, o ≠ none) → ∃ cs, os = cs.map some ∧ P2 (PrS H) vs cs ∧ (∀ c ∈ cs, PrL c) ∧ ∀ v ∈ vs, NoD D q v
  | _, _, .nil, _ => ⟨[], rfl, .nil, (fun _ h => nomatch h), (fun _ h => nomatch h)⟩
  | _, _, .cons (b := o) h t, n => by
    obtain ⟨cs, rfl, pc, h0, h1⟩ := cs_of t fun o ho => n o (List.mem_cons_of_mem _ ho)
    cases o with
    | none => exact (n none List.mem_cons_self rfl).elim
    | some c =>
      refine ⟨c :: cs, rfl, .cons h.2.1 pc, fun d hd => ?_, fun d hd => ?_⟩
      · rcases List.mem_cons.mp hd with rfl | hd
        · exact h.2.2
        · exact h0 d hd
      · rcases List.mem_cons.mp hd with rfl | hd
        · exact h.1
        · exact h1 d hd
theorem E01.mono_ {p q : Addr} {H : Hp} {N M : Nat} (h : Bag H p q N) (l : N ≤ M) : Bag H p q M := h.mono l
/-- what stands at the end: both Numbers, the pairs, the bag, the table -/
structure E01 (K : PySem.W.Frag) (p q Pt a b l : Addr) (cs : List Cl) (N : Nat) (H : Hp) : Prop where
  s1 : S1 p q Pt N H
  a : MkN K H a cs
  b : MkN K H b cs
  l : PL H l cs
theorem E01.same {K : PySem.W.Frag} {p q Pt a b l : Addr} {cs : List Cl} {N : Nat} {H H' : Hp} (h : E01 K p q Pt a b l cs N H) (s : Same H H') : E01 K p q Pt a b l cs N H' := ⟨h.s1.same s, h.a.same s, h.b.same s, h.l.same s⟩
theorem MkN.kpB {K : PySem.W.Frag} {p a : Addr} {H H' : Hp} {cs : List Cl} {kvs : List (Key × V)} (k : Kp p H H') (hp : H p = some (.dK kvs)) (h : MkN K H a cs) : MkN K H' a cs := let ⟨ds, ns, e, r⟩ := h.ex; ⟨ds, ns, e.kpB k hp, r⟩
theorem E01.go {K : PySem.W.Frag} {p q Pt a b l : Addr} {cs : List Cl} {N M : Nat} {H H' : Hp} (h : E01 K p q Pt a b l cs N H) (k : Kp p H H') (hB : Bag H' p q M) : E01 K p q Pt a b l cs M H' :=
  let ⟨_, _, hp, _⟩ := id h.s1.bag.at_
  ⟨h.s1.go k hB, h.a.kpB k hp, h.b.kpB k hp, h.l.kpB k hp⟩
theorem MkN.kpl {K : PySem.W.Frag} {a u : Addr} {H H' : Hp} {cs : List Cl} {xs : List V} (h : MkN K H a cs) (ne : NuNe H a u) (k : Kp u H H') (hu : H u = some (.lst xs)) : MkN K H' a cs := let ⟨ds, ns, e, r⟩ := h.ex; ⟨ds, ns, e.kpl ne k hu, r⟩
section
variable {P : Program} [PM : PMain P] {w : World} {K : PySem.W.Frag} {mg : Str → Option Value} {base : Heap}
theorem law_b (T : Txt K mg) {f c c2 Pt Pt2 : Addr} (D2 : LamM K mg "_law_short_right" s__law_short_right c2) (TB : LamX.TabB base mg c Pt) (TB2 : LamX.TabB base mg c2 Pt2) (hne : Pt2 ≠ Pt) (A : Around) (outer : List Env) (s : Shared) (H : Hp) (E : XK) (hr : Room 79 (A.deeper (PyProof.Rows.envOfC "law" (defScope s_law) s.heap.objs.size f (.ref c)))) :
    ∃ t3, PSs (cxOf (L2.CX P w) P w K mg base ["_law_script", "_law_bag_here", "_law_parts", "_law_places", "_law_k", "_law_at", "_law_given", "_law_pairs", "_law_a", "_law_b", "_law_part", "_law_n", "_law_place", "_law_value"] "law" (defScope s_law) f (.ref c) A outer s H E).nox ((defBody s_law).drop 5) t3 ∧
    ∀ (σ : L2.St) (H0 : Hp) (Q : VK) (p q D : Addr) (N : Nat) (vs : List V) (cs : List Cl) (w0 w3 w4 w5 w6 w7 w8 w9 w10 w11 w12 w13 : Option V), σ = [w0, some (.ref p), some (.ref D), w3, w4, w5, w6, w7, w8, w9, w10, w11, w12, w13] → S1 p q Pt2 N H0 → N < 1000 → H0 D = some (.lst vs) → D ≠ q → P2 (PrS H0) vs cs → (∀ c ∈ cs, PrL c) → (∀ v ∈ vs, NoD D q v) → cs.length < 20 → (∀ H', Q (.bl true) H') → t3 { nx := fun _ H' => Q .non H', rt := Q } σ H0 := by
  have m_Numbers := @m_NumA P PM w K mg base T
  have c__law_draw := @c__law_draw P w K mg base T
  have c__law_has := @c__law_has P w K mg base T
  have c_hasM := @c_hasM P w K mg base T
  have c_eqM := @c_eqM P w K mg base T
  have c_eqX := @c_eqX P w K mg base T
  have c__law_short_right := @c__law_short_right P PM w K mg base T c2 Pt2 D2 TB2
  refine ⟨_, (pss_cons (ps_setLc (i := 7) (own := [("_law_part", 10)]) (g := gName 10) rfl sc_law.nd rfl rfl (sw_true rfl rfl rfl (by decide +kernel)) (pi_listK K (pv 2)) (blkOk_by (own := [("_law_part", 10)]) (N := ["_law_script", "_law_bag_here", "_law_parts", "_law_places", "_law_k", "_law_at", "_law_given", "_law_pairs", "_law_a", "_law_b", "_law_part", "_law_n", "_law_place", "_law_value"]) (sc := defScope s_law) (by decide +kernel)) (fun _ _ _ _ _ => (pg_name (i := 10) sc_law.nd rfl (Or.inl rfl))) (fun _ _ _ _ _ => pts_nil) (fun _ _ _ _ _ => (pe_tup (pa_cons (pe_ix (ix_sq K) (pv 10) pe_int (fun _ _ => rfl)) (pa_cons (pe_ix (ix_sq K) (pv 10) pe_int (fun _ _ => rfl)) pa_nil)))))
      (pss_cons (ps_set (i := 8) sc_law.nd rfl (Or.inr rfl) (pe_mkx m_Numbers hr (by first | decide | omega) rfl passL (pa_cons (pv 2) pa_nil)))
      (pss_cons (ps_set (i := 9) sc_law.nd rfl (Or.inl rfl) (pe_mkx m_Numbers hr (by first | decide | omega) rfl passL (pa_cons (pe_callTy (call_tuple_ofK K) (by rfl) T.b_tuple (by decide +kernel) (pa_cons (pv 7) pa_nil)) pa_nil)))
      (pss_cons (ps_expr (pe_bm PySem.F.plainAttrs_list PySem.F.slot_list_append PySem.F.type_list_append mt_append (pv 2) (pa_cons (pe_tup (pa_cons pe_int (pa_cons pe_int pa_nil))) pa_nil)))
      (pss_cons (ps_for PassesOwn.never rfl (pi_list (pe_slice sl_list (pv 2) po_none (po_some pe_int))) (pg_name (i := 10) sc_law.nd rfl (Or.inl rfl)) (pss_one (ps_if (pt_val (pe_callB call_isi (by rfl) T.b_isinstance (by decide +kernel) (pa_cons (pv 10) (pa_cons (pe_bltn (v := .ty "list") rfl T.b_list (by decide +kernel) rfl) pa_nil)))) (pss_one (ps_asg pe_int (pg_sub (pv 10) pe_int set_list))) pss_nil)))
      (pss_cons (ps_for PassesOwn.never rfl (pi_range1 (by rfl) T.b_range (pa_cons pe_int pa_nil)) (pg_name (i := 4) sc_law.nd rfl (Or.inl rfl)) (pss_cons (ps_set (i := 11) sc_law.nd rfl (Or.inl rfl) (pe_op op_sub (pe_op op_add (pe_op op_mul (pe_op op_sub (pe_cx c__law_draw hr (by first | decide | omega) rfl passL (pa_cons (pv 1) (pa_cons pe_int pa_nil))) pe_int) (pe_ix (ix_listK K) (pe_lst (pa_cons pe_int (pa_cons (pe_op op_pow pe_int pe_int) (pa_cons (pe_op op_add (pe_op op_pow pe_int pe_int) pe_int) pa_nil)))) (pe_cx c__law_draw hr (by first | decide | omega) rfl passL (pa_cons (pv 1) (pa_cons pe_int pa_nil))) (fun _ _ => rfl))) (pe_cx c__law_draw hr (by first | decide | omega) rfl passL (pa_cons (pv 1) (pa_cons pe_int pa_nil)))) pe_int))
      (pss_one (ps_if (PW.pt (pw_or (pt_cmpR op_ne (pe_cmpR (or_inO c_hasM hr (by first | decide | omega) passL) (pv 11) (pv 8) (by rfl)) (pe_cx c__law_has hr (by first | decide | omega) rfl passL (pa_cons (pv 7) (pa_cons (pv 11) pa_nil))) (nomark _)) (pw_or1 (pt_cmpR op_ne (pe_cmpR (or_inO c_hasM hr (by first | decide | omega) passL) (pv 11) (pv 9) (by rfl)) (pe_cx c__law_has hr (by first | decide | omega) rfl passL (pa_cons (pv 7) (pa_cons (pv 11) pa_nil))) (nomark _))))) (pss_one (ps_ret pe_bl)) pss_nil))))
      (pss_cons (ps_if (PW.pt (pw_or (pt_val (pe_callB (cr_any rfl) (by rfl) T.b_any (by decide +kernel) (pa_cons (pe_lc (own := [("_law_value", 13)]) (g := gName 13) rfl sc_law.nd (pi_listK K (pe_lst (pa_cons pe_non (pa_cons pe_str (pa_cons pe_bl (pa_cons pe_bl (pa_cons (pe_tup (pa_cons pe_int (pa_cons pe_int pa_nil))) (pa_cons (pe_lst (pa_cons pe_int pa_nil)) pa_nil)))))))) (blkOk_by (own := [("_law_value", 13)]) (N := ["_law_script", "_law_bag_here", "_law_parts", "_law_places", "_law_k", "_law_at", "_law_given", "_law_pairs", "_law_a", "_law_b", "_law_part", "_law_n", "_law_place", "_law_value"]) (sc := defScope s_law) (by decide +kernel)) (fun _ _ _ _ _ => (pg_name (i := 13) sc_law.nd rfl (Or.inl rfl))) (fun _ _ _ _ _ => pts_nil) (fun _ _ _ _ _ => (pe_cmpR (or_inO c_hasM hr (by first | decide | omega) passL) (pv 13) (pv 8) (by rfl)))) pa_nil))) (pw_or (pt_cmpR (or_eqKK K c_eqX hr (by first | decide | omega) passL) (pv 8) (pv 7) (nomark _)) (pw_or1 (pt_cmpR (or_eqKK K c_eqX hr (by first | decide | omega) passL) (pv 8) pe_int (nomark _)))))) (pss_one (ps_ret pe_bl)) pss_nil)
      (pss_one (ps_ret (pe_and (pe_cmpR (or_eqO c_eqM hr (by first | decide | omega) passL) (pv 8) (pv 9) (nomark _)) (pe_one (pe_cx c__law_short_right hr (by first | decide | omega) rfl passL (pa_cons (pv 1) pa_nil))))))))))))), ?_⟩
  intro σ H0 Q p q D N vs cs w0 w3 w4 w5 w6 w7 w8 w9 w10 w11 w12 w13 hσ z hN hD nq pp hL nD h20 k
  subst hσ
  have hc8 : ∀ c ∈ cs, 0 ≤ c.2 ∧ Bd 8000 c.2 := (PrL.all hL).bd L01_pos L01_bd
  obtain ⟨_, _, hp0, hq0⟩ := id z.bag.at_
  have npD : D ≠ p := ne_of hD hp0 (by intro z; cases z)
  walk_at "g"
  refine ⟨⟨_, SqL.of hD⟩, fun lp nlp => ?_⟩
  have nlD : lp ≠ D := (ne_of_none hD nlp).symm
  obtain ⟨W, eW1, eW2, hW⟩ := p2_zip pp
  have lW : vs.length = W.length := by rw [eW1, List.length_map]
  have lW2 : cs.length = W.length := by rw [eW2, List.length_map]
  have wl : Walk (Itl K D) W.length (fun H => SqL K H D vs) (YAt vs) := by
    rw [← lW]
    exact walk_list
  refine lc_gen wl (fun w => [w0, some (.ref p), some (.ref D), w3, w4, w5, w6, w7, w8, w9, some w.1, w11, w12, w13]) (fun _ => true) (fun y w H => ∃ t, y = .ref t ∧ PrT H t w.2) ?_ nlp (by omega) (fun H s => SqL.of (s _ _ hD)) ?_ (fun _ _ => rfl) (fun c _ H Q _ q => q H (Same.refl H)) ?_ ?_
  · rintro y c H H' acc hD kp ⟨t, rfl, ht⟩
    exact ⟨t, rfl, kp _ _ ht (ht.ne hD)⟩
  · rintro i H2 y H2' w hw s2 ⟨rfl, hy⟩
    rw [eW1, List.getElem?_map, hw] at hy
    cases hy
    exact ⟨Same.refl _, fun Q q => q⟩
  · intro w hw _ H2 Q2 s2 q2
    obtain ⟨u, eu, hu⟩ := hW w hw
    rw [eu]
    walk_at "g"
    refine ⟨u, _, 0, _, rfl, rfl, (hu.same s2).sq, atI_nat (j := 0) rfl, ?_⟩
    walk_at "g"
    refine ⟨u, _, 1, _, rfl, rfl, (hu.same s2).sq, atI_nat (j := 1) rfl, ?_⟩
    walk_at "g"
    refine ⟨by show 2 ≤ sizeLine; decide, fun t nt => ?_⟩
    exact q2 _ _ (same_upd nt) ⟨t, rfl, upd_same⟩
  intro ys H2 s2 hlp2 py
  rw [filter_all] at py
  obtain ⟨as, rfl⟩ := py.ref (f := V.ref) (fun v b ⟨t, e, _⟩ => ⟨t, e⟩)
  have hl2 : PL H2 lp cs := ⟨as, hlp2, by rw [eW2]; exact P2.mapr ((P2.map_l.mp py).mono fun t c ⟨t', e, r⟩ => by cases e; exact r)⟩
  clear py wl lW lW2 hW eW1 eW2 W
  have hD2 := s2 _ _ hD
  walk_at "g"
  intro x dx nx ndx _
  refine nA nx ndx (.inl (SqL.of hD2)) (pp.mono fun v c h => h.to fun u xs _ q => q.same s2) hc8 (by omega) fun H3 s3 hA neA => ⟨rfl, ?_⟩
  clear nx ndx
  obtain ⟨ts, hl3, pt3⟩ := hl2.same s3
  walk_at "g"
  refine ⟨lp, _, rfl, .inl ⟨SqL.of hl3, fun tp ntp => ?_⟩⟩
  have s4 := same_upd (o := .tup (ts.map V.ref)) ntp
  have htp : upd H3 tp (.tup (ts.map V.ref)) tp = some (.tup (ts.map V.ref)) := upd_same
  generalize upd H3 tp (.tup (ts.map V.ref)) = H4 at *
  walk_at "g"
  intro y dy ny ndy _
  refine nA ny ndy (.inr (SqT.of htp)) (P2.map_l.mpr (pt3.mono fun t c e => ⟨t, rfl, .inr (s4 _ _ e)⟩)) hc8 (by omega) fun H5 s5 hB neB' => ⟨rfl, ?_⟩
  have s25 := s3.trans (s4.trans s5)
  have s05 := s2.trans s25
  obtain ⟨dxa, fsa, ha3⟩ := hA.at_
  have neA5 : ∀ b o, H2 b = some o → NuNe H5 x b := fun b o e => (neA b o e).same (s4.trans s5) ha3
  have neB5 : ∀ b o, H2 b = some o → NuNe H5 y b := fun b o e => neB' b o ((s3.trans s4) _ _ e)
  have e5 : E01 K p q Pt2 x y lp cs N H5 := ⟨z.same s05, hA.same (s4.trans s5), hB, hl2.same s25⟩
  have hD5 := s05 _ _ hD
  have pp5 : P2 (PrS H5) vs cs := pp.mono fun v c h => h.to fun u xs _ q => q.same s05
  have old5 : ∀ v ∈ vs, ∀ u, v = .ref u → ∃ o, H0 u = some o := fun v hv u e => by
    obtain ⟨c, hc, u', e', hu⟩ := pp.meml hv
    rw [e'] at e
    cases e
    exact hu.elim (fun h => ⟨_, h⟩) fun h => ⟨_, h⟩
  clear hA hB neA neB' hl2 hl3 pt3 htp s3 s4 s5 s25 ny ndy ntp hD2 hlp2 ha3
  walk_at "g"
  refine ⟨.inl ⟨rfl, _, SqL.of hD5⟩, ?_⟩
  walk_at "g"
  refine ⟨by show 2 ≤ sizeLine; decide, fun t0 nt0 => ?_⟩
  have s6 := same_upd (o := .tup [.int 0, .int 1]) nt0
  have ht6 : upd H5 t0 (.tup [.int 0, .int 1]) t0 = some (.tup [.int 0, .int 1]) := upd_same
  generalize upd H5 t0 (.tup [.int 0, .int 1]) = H6 at *
  have e6 := e5.same s6
  have hD6 := s6 _ _ hD5
  walk_at "g"
  have lv := pp.len
  refine ⟨D, vs, _, rfl, rfl, hD6, Nat.lt_of_lt_of_le (show vs.length < 100 by omega) (by decide), ?_⟩
  have k7 := kp_upd D H6 (.lst (vs ++ [.ref t0]))
  have hD7 : upd H6 D (.lst (vs ++ [.ref t0])) D = some (.lst (vs ++ [.ref t0])) := upd_same
  obtain ⟨dxa, fsa, ha5⟩ := e5.a.at_
  obtain ⟨dxb, fsb, hb5⟩ := e5.b.at_
  have neA6 : ∀ b o, H2 b = some o → NuNe H6 x b := fun b o e => (neA5 b o e).same s6 ha5
  have neB6 : ∀ b o, H2 b = some o → NuNe H6 y b := fun b o e => (neB5 b o e).same s6 hb5
  have keep : ∀ (u : Addr) (G G' : Hp) (xs ys : List V), G' = upd G u (.lst ys) → G u = some (.lst xs) → NuNe G x u → NuNe G y u → u ≠ q → lp ≠ u → E01 K p q Pt2 x y lp cs N G → E01 K p q Pt2 x y lp cs N G' := by
    intro u G G' xs ys eG hu na nb nuq nlu e
    have kk : Kp u G G' := by rw [eG]; exact kp_upd u G _
    obtain ⟨ts, g1, g2⟩ := e.l
    obtain ⟨_, _, hpG, _⟩ := id e.s1.bag.at_
    refine ⟨⟨?_, tabs_kpl e.s1.tab kk hu⟩, e.a.kpl na kk hu, e.b.kpl nb kk hu, ts, kk _ _ g1 nlu, g2.mono fun t c h => kk _ _ h (ne_of h hu (by intro z; cases z))⟩
    rw [eG]
    exact e.s1.bag.wr (ne_of hu hpG (by intro z; cases z)) nuq
  have e7 := keep D H6 _ vs (vs ++ [.ref t0]) rfl hD6 (neA6 _ _ (s2 _ _ hD)) (neB6 _ _ (s2 _ _ hD)) nq nlD e6
  have neA7 : ∀ b o, H2 b = some o → NuNe (upd H6 D (.lst (vs ++ [.ref t0]))) x b := fun b o e C' dx' q1 q2 h => neA6 b o e C' dx' q1 q2 (by
    have h6 := s6 _ _ ha5
    rw [k7 _ _ h6 (ne_of h6 hD6 (by intro z; cases z))] at h
    rw [h6]
    exact h)
  have neB7 : ∀ b o, H2 b = some o → NuNe (upd H6 D (.lst (vs ++ [.ref t0]))) y b := fun b o e C' dx' q1 q2 h => neB6 b o e C' dx' q1 q2 (by
    have h6 := s6 _ _ hb5
    rw [k7 _ _ h6 (ne_of h6 hD6 (by intro z; cases z))] at h
    rw [h6]
    exact h)
  have it7 : ∀ v, (vs ++ [V.ref t0])[0]? = some v → ∃ u r m, v = .ref u ∧ ((upd H6 D (.lst (vs ++ [.ref t0]))) u = some (.tup [.int r, .int m]) ∨ ((upd H6 D (.lst (vs ++ [.ref t0]))) u = some (.lst [.int r, .int m]) ∧ u ≠ q ∧ lp ≠ u ∧ ∃ o, H2 u = some o)) := by
    intro v hv
    have s06 := s05.trans s6
    cases vs with
    | nil =>
      cases hv
      exact ⟨t0, 0, 1, rfl, .inl (k7 _ _ ht6 (ne_of ht6 hD6 (by intro z; cases z)))⟩
    | cons v0 vs =>
      cases hv
      obtain ⟨c, hc, u, e, hu⟩ := pp.meml List.mem_cons_self
      obtain ⟨n1, n2⟩ := nD v List.mem_cons_self
      have nuD : u ≠ D := fun z => n1 (by rw [e, z])
      have nuq : u ≠ q := fun z => n2 (by rw [e, z])
      refine ⟨u, c.1, c.2, e, ?_⟩
      rcases hu with hu | hu
      · exact .inr ⟨k7 _ _ (s06 _ _ hu) nuD, nuq, (ne_of_none hu nlp).symm, _, s2 _ _ hu⟩
      · exact .inl (k7 _ _ (s06 _ _ hu) nuD)
  generalize upd H6 D (.lst (vs ++ [.ref t0])) = H7 at *
  clear e5 e6 hD5 hD6 pp5 old5 neA5 neB5 neA6 neB6 ha5 hb5 k7 s6 ht6 nt0
  walk_at "g"
  refine ⟨D, _, rfl, SqL.of hD7, fun p2 np2 => ?_⟩
  have ec : cutV (vs ++ [V.ref t0]) none (some 1) = (vs ++ [V.ref t0]).take 1 := cut_take _ 1
  rw [ec]
  clear ec
  have s8 := same_upd (o := .lst ((vs ++ [V.ref t0]).take 1)) np2
  have hp8 : upd H7 p2 (.lst ((vs ++ [V.ref t0]).take 1)) p2 = some (.lst ((vs ++ [V.ref t0]).take 1)) := upd_same
  have e8 := e7.same s8
  have np27 : ∀ b o, H7 b = some o → p2 ≠ b := fun b o e => (ne_of_none e np2).symm
  generalize upd H7 p2 (.lst ((vs ++ [V.ref t0]).take 1)) = H8 at *
  generalize hσ : List.set (List.set (List.set _ 7 _) 8 _) 9 _ = σ0
  obtain rfl : σ0 = [w0, some (.ref p), some (.ref D), w3, w4, w5, w6, some (.ref lp), some (.ref x), some (.ref y), w10, w11, w12, w13] := hσ.symm
  clear hσ
  refine ⟨p2, rfl, ⟨_, SqL.of hp8⟩, ?_⟩
  have l1 : ((vs ++ [V.ref t0]).take 1).length ≤ 1 := by rw [List.length_take]; exact Nat.min_le_left _ _
  refine for_it (walk_list (K := K) (a := p2) (xs := (vs ++ [V.ref t0]).take 1)) (fun i σ H' => (∃ w10 : Option V, σ = [w0, some (.ref p), some (.ref D), w3, w4, w5, w6, some (.ref lp), some (.ref x), some (.ref y), w10, w11, w12, w13]) ∧ E01 K p q Pt2 x y lp cs N H' ∧ SqL K H' p2 ((vs ++ [V.ref t0]).take 1) ∧ (i = 0 → H' = H8)) ⟨⟨_, rfl⟩, e8, SqL.of hp8, fun _ => rfl⟩ ?_ ?_ ?_
  · rintro i σ H' _ ⟨_, _, h, _⟩
    exact h
  · rintro i v σ H9 H9' hi ⟨⟨v10, rfl⟩, e9, hp9, h9⟩ ⟨rfl, hv⟩
    obtain rfl : i = 0 := by omega
    obtain rfl := h9 rfl
    rw [List.getElem?_take_of_lt (by decide)] at hv
    obtain ⟨u, r, m, rfl, hu⟩ := it7 v hv
    walk_at "g"
    rcases hu with hu | ⟨hu, nuq, nlu, o, ho⟩
    · have hu8 := s8 _ _ hu
      refine ⟨.ref u, .ty "list", _, _, false, rfl, .ty _, .base (.tup hu8), kit_ty (by decide +kernel), false, rfl, ?_⟩
      refine iteF ?_
      exact ⟨⟨_, rfl⟩, e9, hp9, fun z => by omega⟩
    · have hu8 := s8 _ _ hu
      refine ⟨.ref u, .ty "list", _, _, true, rfl, .ty _, .base (.lst hu8), kit_ty (by decide +kernel), true, rfl, ?_⟩
      refine iteT ?_
      walk_at "g"
      refine ⟨u, _, 1, 1, rfl, rfl, hu8, ixNn (j := 1) (by show 1 < 2; decide), ?_⟩
      obtain ⟨dxa, fsa, ha7⟩ := e7.a.at_
      obtain ⟨dxb, fsb, hb7⟩ := e7.b.at_
      exact ⟨⟨_, rfl⟩, keep u _ _ _ ([V.int r, .int m].set 1 (.int 1)) rfl hu8 ((neA7 _ _ ho).same s8 ha7) ((neB7 _ _ ho).same s8 hb7) nuq nlu e9, SqL.of (by rw [upd_ne (np27 _ _ hu)]; exact hp8), fun z => by omega⟩
  rintro σ H9 ⟨⟨v10, rfl⟩, e9, _, _⟩
  clear keep it7 e7 e8 neA7 neB7 hD7 hp8 np27 s8 np2 l1
  obtain ⟨z9, hA9, hB9, hl9⟩ := id e9
  clear hA9 hB9 hl9
  walk_at "g"
  refine ⟨by decide, by decide, ?_⟩
  refine for_range (lo := 0) (n := 12) (fun i σ H' => ∃ (v4 v11 : Option V), σ = [w0, some (.ref p), some (.ref D), w3, v4, w5, w6, some (.ref lp), some (.ref x), some (.ref y), v10, v11, w12, w13] ∧ E01 K p q Pt2 x y lp cs (N + 3 * i) H') ⟨_, _, rfl, e9⟩ ?_ ?_
  · rintro i σ H' hi ⟨v4, v11, rfl, e⟩
    walk_at "g"
    refine ⟨p, q, 61, _, rfl, e.s1.bag, by omega, by decide, bigD _ (by decide) (by decide), fun v1 Ha ka hBa v10' v11' => ?_⟩
    have ea := e.go ka hBa
    walk_at "g"
    refine ⟨⟨by decide, by decide, by decide⟩, ?_⟩
    walk_at "g"
    refine ⟨⟨by decide, by decide, by decide⟩, ?_⟩
    walk_at "g"
    refine ⟨by show 3 ≤ sizeLine; decide, fun l nl => ?_⟩
    obtain ⟨FL, eFL, hFL⟩ : ∃ FL : List V, [V.int 1, (fun i j : Int => V.int (i ^ j.toNat)) 10 40, V.int (10 ^ Int.toNat 40 + 3)] = FL ∧ ∀ j, j < 3 → ∃ g : Int, FL[j]? = some (.int g) := by
      refine ⟨_, rfl, fun j hj => ?_⟩
      rcases (show j = 0 ∨ j = 1 ∨ j = 2 by omega) with rfl | rfl | rfl <;> exact ⟨_, rfl⟩
    rw [eFL]
    have sb := same_upd (o := .lst FL) nl
    have hlb : upd Ha l (.lst FL) l = some (.lst FL) := upd_same
    have eb := ea.same sb
    generalize upd Ha l (.lst FL) = Hb at *
    obtain ⟨_, _, hpb, _⟩ := id eb.s1.bag.at_
    clear eFL e ea ka hBa sb nl
    walk_at "g"
    refine ⟨p, q, 3, _, rfl, eb.s1.bag, by omega, by decide, bigD _ (by decide) (by decide), fun v2 Hc kc hBc v20 v21 => ?_⟩
    have ec := eb.go kc hBc
    obtain ⟨j2, rfl⟩ : ∃ j : Nat, v2 = (j : Int) := ⟨v2.toNat, by omega⟩
    obtain ⟨g, hg⟩ := hFL j2 (by omega)
    refine ⟨l, _, (j2 : Int), .int g, rfl, rfl, SqL.of (kc _ _ hlb (ne_of hlb hpb (by intro z; cases z))), atI_nat hg, ?_⟩
    clear hlb hpb kc hBc eb hg hFL
    walk_at "g"
    refine ⟨.inl ⟨by omega, by omega⟩, ?_⟩
    walk_at "g"
    refine ⟨p, q, 3, _, rfl, ec.s1.bag, by omega, by decide, bigD _ (by decide) (by decide), fun v3 Hd kd hBd v30 v31 => ?_⟩
    have ed := ec.go kd hBd
    clear ec kd hBd
    walk_at "g"
    generalize hσ : List.set (List.set _ 4 _) 11 _ = σ0
    obtain rfl : σ0 = [w0, some (.ref p), some (.ref D), w3, some (.int (0 + (i : Int))), w5, w6, some (.ref lp), some (.ref x), some (.ref y), v10, some (.int ((v1 - 30) * g + v3 - 1)), w12, w13] := hσ.symm
    clear hσ v10' v11' v20 v21 v30 v31
    obtain ⟨dxa, fsa, ha⟩ := ed.a.at_
    walk_at "g"
    refine ⟨x, _, _, rfl, ha, x, .int ((v1 - 30) * g + v3 - 1), cs, rfl, ed.a, hc8, by omega, .inl ⟨((v1 - 30) * g + v3 - 1), rfl, fun He' se => ⟨_, rfl, ?_⟩⟩⟩
    have ee := ed.same se
    walk_at "g"
    refine ⟨lp, ((v1 - 30) * g + v3 - 1), cs, rfl, ee.l, fun c hc => (hc8 c hc).1, by omega, fun Hf sf => ?_⟩
    have ef := ee.same sf
    walk_at "g"
    rw [neB (a := hasC cs ((v1 - 30) * g + v3 - 1)) (b := cs.any fun c => hasP c ((v1 - 30) * g + v3 - 1)) rfl]
    obtain ⟨dxb, fsb, hb⟩ := ef.b.at_
    walk_at "g"
    refine ⟨y, _, _, rfl, hb, y, .int ((v1 - 30) * g + v3 - 1), cs, rfl, ef.b, hc8, by omega, .inl ⟨((v1 - 30) * g + v3 - 1), rfl, fun Hg sg => ⟨_, rfl, ?_⟩⟩⟩
    have eg := ef.same sg
    walk_at "g"
    refine ⟨lp, ((v1 - 30) * g + v3 - 1), cs, rfl, eg.l, fun c hc => (hc8 c hc).1, by omega, fun Hh sh => ?_⟩
    have eh := eg.same sh
    walk_at "g"
    rw [neB (a := hasC cs ((v1 - 30) * g + v3 - 1)) (b := cs.any fun c => hasP c ((v1 - 30) * g + v3 - 1)) rfl]
    exact ⟨_, _, rfl, ⟨⟨eh.s1.bag.mono (by omega), eh.s1.tab⟩, eh.a, eh.b, eh.l⟩⟩
  rintro σ Ha ⟨v4, v11, rfl, ea⟩
  walk_at "g"
  refine ⟨by show 2 ≤ sizeLine; decide, fun t nt => ?_⟩
  have s1 := same_upd (o := .tup [.int 0, .int 1]) nt
  have ht : upd Ha t (.tup [.int 0, .int 1]) t = some (.tup [.int 0, .int 1]) := upd_same
  generalize upd Ha t (.tup [.int 0, .int 1]) = Hb at *
  walk_at "g"
  refine ⟨by show 1 ≤ sizeLine; decide, fun l3 nl3 => ?_⟩
  have s2 := same_upd (o := .lst [.int 3]) nl3
  have hl3 : upd Hb l3 (.lst [.int 3]) l3 = some (.lst [.int 3]) := upd_same
  generalize upd Hb l3 (.lst [.int 3]) = Hc at *
  walk_at "g"
  refine ⟨by show 6 ≤ sizeLine; decide, fun lv nlv => ?_⟩
  obtain ⟨VS, eVS⟩ : ∃ VS : List V, VS = [.non, .str "1", .bl true, .bl false, .ref t, .ref l3] := ⟨_, rfl⟩
  rw [← eVS]
  have s3 := same_upd (o := .lst VS) nlv
  have hlv : upd Hc lv (.lst VS) lv = some (.lst VS) := upd_same
  generalize upd Hc lv (.lst VS) = Hd at *
  have ed := ea.same ((s1.trans s2).trans s3)
  have wv : ∀ v ∈ VS, IsW K Hd v false := fun v hv => by
    rw [eVS] at hv
    simp only [List.mem_cons, List.not_mem_nil, or_false] at hv
    rcases hv with rfl | rfl | rfl | rfl | rfl | rfl
    · exact isW_non
    · exact isW_str _
    · exact isW_bl _
    · exact isW_bl _
    · exact isW_sq (.inr ((s2.trans s3) _ _ ht))
    · exact isW_sq (.inl (s3 _ _ hl3))
  have l6 : VS.length = 6 := by rw [eVS] <;> rfl
  clear ea s1 s2 s3 ht hl3 nt nl3 nlv eVS
  walk_at "g"
  refine ⟨⟨_, SqL.of hlv⟩, fun B nB => ?_⟩
  obtain ⟨dxa, fsa, ha⟩ := ed.a.at_
  refine lc_gen (walk_list (K := K) (a := lv) (xs := VS)) (fun v => [w0, some (.ref p), some (.ref D), w3, v4, w5, w6, some (.ref lp), some (.ref x), some (.ref y), v10, v11, w12, some v]) (fun _ => true) (fun z _ _ => z = .bl false) (fun _ _ _ _ _ _ _ e => e) nB (by omega) (fun H s => SqL.of (s _ _ hlv)) ?_ (fun _ _ => rfl) (fun c _ H Q _ q => q H (Same.refl H)) ?_ ?_
  · rintro i H2 y' H2' v hv s2 ⟨rfl, hy⟩
    rw [hv] at hy
    cases hy
    exact ⟨Same.refl _, fun Q q => q⟩
  · intro v hv _ H2 Q2 s2 q2
    walk_at "g"
    refine ⟨x, _, _, rfl, s2 _ _ ha, x, v, cs, rfl, ed.a.same s2, hc8, by omega, .inr ⟨isW_same s2 (wv v hv), fun H3 s3 => ⟨_, rfl, ?_⟩⟩⟩
    exact q2 _ _ s3 rfl
  intro zs He' se hB py
  rw [filter_all] at py
  have ez : zs = (VS.map fun _ => false).map V.bl := by rw [List.map_map]; exact py.eq_map
  have ee := ed.same se
  have hae := se _ _ ha
  walk_at "g"
  refine ⟨B, VS.map fun _ => false, rfl, SqL.of (by rw [hB, ez]), ?_⟩
  rw [show (VS.map fun _ => false).any id = false from by
    rw [List.any_map, Bool.eq_false_iff]
    intro q
    obtain ⟨v, _, h⟩ := List.any_eq_true.mp q
    cases h]
  obtain ⟨ts, hle, _⟩ := id ee.l
  walk_at "g"
  refine ⟨x, dxa, _, _, rfl, hae, .lst hle, T.l_Numbers.first (n := "list") (by decide), x, .ref lp, _, rfl, .base (.lst hle), T.l_Numbers.one "list" (by decide), ⟨_, rfl, ?_⟩⟩
  walk_at "g"
  refine ⟨x, dxa, _, _, rfl, hae, .int 5, T.l_Numbers.first (n := "int") (by decide), x, .int 5, _, rfl, .base (.int 5), T.l_Numbers.one "int" (by decide), ⟨_, rfl, ?_⟩⟩
  walk_at "g"
  refine st_same ee.a ee.b L01_pos L01_bd (PrL.all hL) (PrL.all hL) (by omega) (by omega) (fun n => Iff.rfl) fun Hf sf => ?_
  walk_at "g"
  exact ⟨p, q, _, rfl, (ee.same sf).s1, by omega, k⟩
end
end Tr

/-! # k01: the law. -/
namespace Tr
open PySem L2
/-- steps of a reading that are plain -/
local macro_rules | `(tactic| walk_at "x") => `(tactic| (refine' ⟨_, _, _, _, rfl, rfl, ?k1, ?k2, ?_⟩; (case k1 => exact SqT.of (by assumption)); (case k2 => exact rfl)))
local macro_rules | `(tactic| walk_at "g") => `(tactic| repeat (first | (refine ⟨_, rfl, ?_⟩) | (refine ⟨_, _, rfl, rfl, ?_⟩) | (refine ⟨_, _, rfl, ?_⟩) | (refine ⟨rfl, ?_⟩) | walk_at "x"))


theorem p2_ex {D q : Addr} {H : Hp} : ∀ {vs : List V} {is : List Nat}, P2 (fun y _ => ∃ c, ItL D q H y (some c)) vs is → ∃ cs : List Cl, P2 (ItL D q H) vs (cs.map some) ∧ cs.length = is.length
  | _, _, .nil => ⟨[], .nil, rfl⟩
  | _, _, .cons ⟨c, h⟩ t => by
    obtain ⟨cs, p, l⟩ := p2_ex t
    exact ⟨c :: cs, .cons h p, by rw [List.length_cons, List.length_cons, l]⟩
/-- where the wrong values are -/
def Wat (os : List (Option Cl)) (ps : List Nat) : Prop := ∀ i, os[i]? = some none ↔ i ∈ ps
def shf (a c : Nat) : Nat := if a ≤ c then c + 1 else c
theorem ins_at {α : Type} {l : List α} {v : α} {a : Nat} (ha : a ≤ l.length) (i : Nat) : (l.take a ++ [v] ++ l.drop a)[i]? = if i < a then l[i]? else if i = a then some v else l[i - 1]? := by
  have l1 : (l.take a).length = a := by rw [List.length_take]; omega
  rw [List.append_assoc]
  by_cases h : i < a
  · rw [if_pos h, List.getElem?_append_left (by omega), List.getElem?_take_of_lt h]
  · rw [if_neg h, List.getElem?_append_right (by omega), l1]
    by_cases h2 : i = a
    · rw [if_pos h2, h2, Nat.sub_self]
      rfl
    · rw [if_neg h2, List.singleton_append, show i - a = (i - a - 1) + 1 by omega, List.getElem?_cons_succ, List.getElem?_drop]
      congr 1
      omega
theorem Wat.ins {os : List (Option Cl)} {ps : List Nat} {a : Nat} (h : Wat os ps) (ha : a ≤ os.length) : Wat (os.take a ++ [none] ++ os.drop a) (ps.map (shf a) ++ [a]) := fun i => by
  rw [ins_at ha, List.mem_append, List.mem_map, List.mem_singleton]
  by_cases h1 : i < a
  · rw [if_pos h1, h i]
    constructor
    · exact fun hi => .inl ⟨i, hi, by unfold shf; rw [if_neg (by omega)]⟩
    · rintro (⟨j, hj, e⟩ | e)
      · unfold shf at e
        split at e
        · omega
        · rw [← e]; exact hj
      · omega
  · rw [if_neg h1]
    by_cases h2 : i = a
    · rw [if_pos h2]
      exact ⟨fun _ => .inr h2, fun _ => rfl⟩
    · rw [if_neg h2, h (i - 1)]
      constructor
      · exact fun hi => .inl ⟨i - 1, hi, by unfold shf; rw [if_pos (by omega)]; omega⟩
      · rintro (⟨j, hj, e⟩ | e)
        · unfold shf at e
          split at e
          · rw [← e]; exact hj
          · omega
        · exact (h2 e).elim
/-- what stands while parts are spoiled -/
structure B01 (p q D L Pt Pt2 : Addr) (N : Nat) (vs : List V) (os : List (Option Cl)) (ps : List Nat) (H : Hp) : Prop where
  bag : Bag H p q N
  d : H D = some (.lst vs)
  pp : P2 (ItL D q H) vs os
  l : H L = some (.lst (ps.map fun (i : Nat) => V.int (i : Int)))
  t1 : H Pt = some (.tbl #[])
  t2 : H Pt2 = some (.tbl #[])
  w : Wat os ps
theorem B01.same {p q D L Pt Pt2 : Addr} {N : Nat} {vs : List V} {os : List (Option Cl)} {ps : List Nat} {H H' : Hp} (h : B01 p q D L Pt Pt2 N vs os ps H) (s : Same H H') : B01 p q D L Pt Pt2 N vs os ps H' :=
  ⟨h.bag.same s, s _ _ h.d, h.pp.mono fun _ _ e => e.same s, s _ _ h.l, s _ _ h.t1, s _ _ h.t2, h.w⟩
theorem B01.go {p q D L Pt Pt2 : Addr} {N M : Nat} {vs : List V} {os : List (Option Cl)} {ps : List Nat} {H H' : Hp} (h : B01 p q D L Pt Pt2 N vs os ps H) (k : Kp p H H') (hB : Bag H' p q M) : B01 p q D L Pt Pt2 M vs os ps H' := by
  obtain ⟨_, _, hp, _⟩ := id h.bag.at_
  exact ⟨hB, k _ _ h.d (ne_of h.d hp (by intro z; cases z)), h.pp.mono fun _ _ e => e.kpB k hp, k _ _ h.l (ne_of h.l hp (by intro z; cases z)), k _ _ h.t1 (ne_of h.t1 hp (by intro z; cases z)), k _ _ h.t2 (ne_of h.t2 hp (by intro z; cases z)), h.w⟩
theorem itl_bd {D q : Addr} {H : Hp} {vs : List V} {os : List (Option Cl)} (pp : P2 (ItL D q H) vs os) : ∀ c, some c ∈ os → Bd 8000 c.2 := fun c hc => by
  obtain ⟨v, _, h⟩ := pp.memr hc
  exact ((PrL.all (cs := [c]) fun d hd => by rw [List.mem_singleton.mp hd]; exact h.2.2).bd L01_pos L01_bd c List.mem_cons_self).2
section
variable {P : Program} [PM : PMain P] {w : World} {K : PySem.W.Frag} {mg : Str → Option Value} {base : Heap}
def spLaw (K : PySem.W.Frag) (Pt Pt2 : Addr) : Sp := fun vs H Q _ => ∃ (a : Addr) (ns : List Int), vs = [.ref a] ∧ SqL K H a (ns.map V.int) ∧ H Pt = some (.tbl #[]) ∧ H Pt2 = some (.tbl #[]) ∧ ∀ H', Q (.bl true) H'
theorem ok_law (T : Txt K mg) {fl : Addr} {fdl : FuncData} {c c2 Pt Pt2 : Addr} (Fl : Fun K "law" "law" s_law fl fdl) (hc : fdl.code = .ref c) (TB : LamX.TabB base mg c Pt) (D2 : LamM K mg "_law_short_right" s__law_short_right c2) (TB2 : LamX.TabB base mg c2 Pt2) (hne : Pt2 ≠ Pt) : FnOk P w K mg base (L2.CX P w) 80 fl fdl ["_law_script"] (spLaw K Pt Pt2) := by
  have c__law_bag := @c__law_bag P w K mg base T
  have c__law_draw := @c__law_draw P w K mg base T
  have c__law_pair := @c__law_pair P PM w K mg base T
  have c__law_wrong := @c__law_wrong P PM w K mg base T
  have m_Numbers := @m_NumA P PM w K mg base T
  refine okT Fl hc sc_law (fun vs H Q E h => ?_) (fun A outer s H vs Q E hr h => ?_)
  · obtain ⟨a, ns, rfl, _⟩ := h
    rfl
  · obtain ⟨a0, ns, rfl, hS, hPt, hPu, k⟩ := h
    obtain ⟨t2, h2, hk2⟩ := @law_b P PM w K mg base T fl c c2 Pt Pt2 D2 TB TB2 hne A outer s H E hr
    refine ⟨_, (pss_cons (ps_set (i := 1) sc_law.nd rfl (Or.inr rfl) (pe_cx c__law_bag hr (by first | decide | omega) rfl passL (pa_cons (pv 0) pa_nil)))
      (pss_cons (ps_setLc (i := 2) (own := [("_law_k", 4)]) (g := gName 4) rfl sc_law.nd rfl rfl (sw_true rfl rfl rfl (by decide +kernel)) (pi_range1 (by rfl) T.b_range (pa_cons (pe_cx c__law_draw hr (by first | decide | omega) rfl passL (pa_cons (pv 1) (pa_cons pe_int pa_nil))) pa_nil)) (blkOk_by (own := [("_law_k", 4)]) (N := ["_law_script", "_law_bag_here", "_law_parts", "_law_places", "_law_k", "_law_at", "_law_given", "_law_pairs", "_law_a", "_law_b", "_law_part", "_law_n", "_law_place", "_law_value"]) (sc := defScope s_law) (by decide +kernel)) (fun _ _ _ _ _ => (pg_name (i := 4) sc_law.nd rfl (Or.inl rfl))) (fun _ _ _ _ _ => pts_nil) (fun _ _ _ _ _ => (pe_cx c__law_pair hr (by first | decide | omega) rfl passL (pa_cons (pv 1) pa_nil))))
      (pss_cons (ps_set (i := 3) sc_law.nd rfl (Or.inl rfl) (pe_lst pa_nil))
      (pss_cons (ps_for PassesOwn.never rfl (pi_range1 (by rfl) T.b_range (pa_cons (pe_cx c__law_draw hr (by first | decide | omega) rfl passL (pa_cons (pv 1) (pa_cons pe_int pa_nil))) pa_nil)) (pg_name (i := 4) sc_law.nd rfl (Or.inl rfl)) (pss_cons (ps_set (i := 5) sc_law.nd rfl (Or.inr rfl) (pe_cx c__law_draw hr (by first | decide | omega) rfl passL (pa_cons (pv 1) (pa_cons (pe_op op_add (pe_callB call_len (by rfl) T.b_len (by decide +kernel) (pa_cons (pv 2) pa_nil)) pe_int) pa_nil))))
      (pss_cons (ps_expr (pe_bm PySem.F.plainAttrs_list PySem.F.slot_list_insert PySem.F.type_list_insert mt_insert (pv 2) (pa_cons (pv 5) (pa_cons (pe_cx c__law_wrong hr (by first | decide | omega) rfl passL (pa_cons (pv 1) pa_nil)) pa_nil))))
      (pss_one (ps_set (i := 3) sc_law.nd rfl (Or.inl rfl) (pe_op op_cat (pe_lc (own := [("_law_place", 12)]) (g := gName 12) rfl sc_law.nd (pi_listK K (pv 3)) (blkOk_by (own := [("_law_place", 12)]) (N := ["_law_script", "_law_bag_here", "_law_parts", "_law_places", "_law_k", "_law_at", "_law_given", "_law_pairs", "_law_a", "_law_b", "_law_part", "_law_n", "_law_place", "_law_value"]) (sc := defScope s_law) (by decide +kernel)) (fun _ _ _ _ _ => (pg_name (i := 12) sc_law.nd rfl (Or.inl rfl))) (fun _ _ _ _ _ => pts_nil) (fun _ _ _ _ _ => (pe_op op_add (pv 12) (pe_callTy call_int1 (by rfl) T.b_int (by decide +kernel) (pa_cons (pe_cmpR op_ge (pv 12) (pv 5) (nomark _)) pa_nil))))) (pe_lst (pa_cons (pv 5) pa_nil))))))))
      (pss_cons (ps_if (pt_cmpR (op_neE (units_of hr)) (pv 3) (pe_lst pa_nil) (nomark _)) (C8.pss_cut (ps_set (i := 6) sc_law.nd rfl (Or.inr rfl) (pe_ifExp (pt_cmpR op_eq (pe_cx c__law_draw hr (by first | decide | omega) rfl passL (pa_cons (pv 1) (pa_cons pe_int pa_nil))) pe_int (nomark _)) (pe_callTy (call_tuple_ofK K) (by rfl) T.b_tuple (by decide +kernel) (pa_cons (pv 2) pa_nil)) (pe_callTy (call_list_ofK K) (by rfl) T.b_list (by decide +kernel) (pa_cons (pv 2) pa_nil))))
      (pss_one (ps_ret (pe_cmpR op_eq (pe_lam2 (q := lamQ) (q2 := shQ) hne (k := 30) (by rfl) T.d__law_told sc__law_told rfl (by first | exact .inl rfl | exact .inr (.inl rfl)) (fun _ _ _ _ _ _ us hl => match us, hl with | [_], _ => rfl) (fun g cdg => told_d T) (by rfl) TB rfl hr (by first | decide | omega) (LamX.lamS_by (sc := defScope s_law) (by decide +kernel)) rfl (fun _ _ _ _ _ => rfl) (fun A outer s H E f c' hr => (pe_mkx m_Numbers hr (by first | decide | omega) rfl (passE rfl rfl rfl rfl) (pa_cons (pv 6) pa_nil)))) (pe_callB (cr_min rfl) (by rfl) T.b_min (by decide +kernel) (pa_cons (pe_lc (own := [("_law_place", 12)]) (g := gName 12) rfl sc_law.nd (pi_listK K (pv 3)) (blkOk_by (own := [("_law_place", 12)]) (N := ["_law_script", "_law_bag_here", "_law_parts", "_law_places", "_law_k", "_law_at", "_law_given", "_law_pairs", "_law_a", "_law_b", "_law_part", "_law_n", "_law_place", "_law_value"]) (sc := defScope s_law) (by decide +kernel)) (fun _ _ _ _ _ => (pg_name (i := 12) sc_law.nd rfl (Or.inl rfl))) (fun _ _ _ _ _ => pts_nil) (fun _ _ _ _ _ => (pe_callTy call_int1 (by rfl) T.b_int (by decide +kernel) (pa_cons (pv 12) pa_nil)))) pa_nil)) (nomark _))))) pss_nil)
      h2))))), ?_⟩
    generalize hσ : L2.start _ _ = σ0
    obtain rfl : σ0 = [some (.ref a0), none, none, none, none, none, none, none, none, none, none, none, none, none] := hσ.symm
    clear hσ
    walk_at "g"
    refine ⟨a0, ns, rfl, hS, fun p q H1 s1 np hB1 => ?_⟩
    have hPt1 := s1 _ _ hPt
    have hPu1 := s1 _ _ hPu
    clear hPt hPu hS s1 np
    walk_at "g"
    refine ⟨p, q, 8, _, rfl, hB1, by decide, by decide, bigD _ (by decide) (by decide), fun v H2 k2 hB2 v0 v1 => ?_⟩
    obtain ⟨_, _, hp1, _⟩ := id hB1.at_
    have hPt2 := k2 _ _ hPt1 (ne_of hPt1 hp1 (by intro z; cases z))
    have hPu2 := k2 _ _ hPu1 (ne_of hPu1 hp1 (by intro z; cases z))
    obtain ⟨n, rfl⟩ : ∃ n : Nat, v = (n : Int) := ⟨v.toNat, by omega⟩
    clear hPt1 hPu1 hB1 hp1 k2
    obtain ⟨_, _, hp2, hq2⟩ := id hB2.at_
    walk_at "g"
    refine ⟨by omega, by omega, fun D nD => ?_⟩
    have nDq : D ≠ q := (ne_of_none hq2 nD).symm
    rw [Int.toNat_natCast]
    refine lc_rngJ (d := 5) (fun y _ H => ∃ c, ItL D q H y (some c)) (fun y i H H' kvs hp k ⟨c, h⟩ => ⟨c, h.kpB k hp⟩) (fun y i H H' acc _ k ⟨c, h⟩ => ⟨c, h.kpD k⟩) nD hB2 (by omega) (fun _ => rfl) (fun σ H Q q => q) ?_ ?_
    · intro i hi H3 Q3 M k3 hB3 hM ⟨acc, hacc⟩ q3
      obtain ⟨_, _, _, hq3⟩ := id hB3.at_
      walk_at "g"
      exact ⟨p, q, M, rfl, hB3, by omega, fun v c H' k' hB' hv hc fr => q3 v H' k' hB' ⟨c, ⟨fr D _ hacc, fr q _ hq3⟩, hv, hc⟩⟩
    intro vs H3 k3 hB3 hD3 py
    obtain ⟨cs, pp, lcs⟩ := p2_ex py
    rw [List.length_range] at lcs
    have hPt3 := k3 _ _ hPt2 (ne_of hPt2 hp2 (by intro z; cases z))
    have hPu3 := k3 _ _ hPu2 (ne_of hPu2 hp2 (by intro z; cases z))
    clear hPt2 hPu2 hB2 hp2 hq2 py nD k3
    walk_at "g"
    refine ⟨by show 0 ≤ sizeLine; decide, fun L0 nL0 => ?_⟩
    have s4 := same_upd (o := .lst []) nL0
    have hL4 : upd H3 L0 (.lst []) L0 = some (.lst []) := upd_same
    have nLD : L0 ≠ D := (ne_of_none hD3 nL0).symm
    have b4 : B01 p q D L0 Pt Pt2 (1 + 5 * n) vs (cs.map some) [] (upd H3 L0 (.lst [])) := ⟨(hB3.same s4).mono (by omega), s4 _ _ hD3, pp.mono fun _ _ e => e.same s4, hL4, s4 _ _ hPt3, s4 _ _ hPu3, fun i => ⟨fun e => (some_none e).elim, fun e => by cases e⟩⟩
    generalize upd H3 L0 (.lst []) = H4 at *
    clear hPt3 hPu3 hB3 hD3 pp hL4 s4 nL0
    walk_at "g"
    refine ⟨p, q, 3, _, rfl, b4.bag, by omega, by decide, bigD _ (by decide) (by decide), fun v5 H5 k5 hB5 v50 v51 => ?_⟩
    have b5 := b4.go k5 hB5
    obtain ⟨r, rfl⟩ : ∃ n : Nat, v5 = (n : Int) := ⟨v5.toNat, by omega⟩
    clear b4 k5 hB5
    walk_at "g"
    refine ⟨by omega, by omega, ?_⟩
    generalize hσ : List.set (List.set (List.set _ 1 _) 2 _) 3 _ = σ0
    obtain rfl : σ0 = [some (.ref a0), some (.ref p), some (.ref D), some (.ref L0), none, none, none, none, none, none, none, none, none, none] := hσ.symm
    clear hσ
    refine for_range (lo := 0) (n := r) (fun i σ H' => ∃ (L : Addr) (w4 w5 : Option V) (vs : List V) (os : List (Option Cl)) (ps : List Nat), σ = [some (.ref a0), some (.ref p), some (.ref D), some (.ref L), w4, w5, none, none, none, none, none, none, none, none] ∧ B01 p q D L Pt Pt2 (100 + 5 * i) vs os ps H' ∧ L ≠ D ∧ os.length ≤ 8 + i ∧ ps.length = i) ⟨L0, _, _, vs, cs.map some, [], rfl, ⟨b5.bag.mono (by omega), b5.d, b5.pp, b5.l, b5.t1, b5.t2, b5.w⟩, nLD, by rw [List.length_map]; omega, rfl⟩ ?_ ?_
    · clear b5 nLD lcs
      rintro i σ H6 hi ⟨L, w4, w5, vs, os, ps, rfl, b6, nLD, hlo, hlp⟩
      have hlv := b6.pp.len
      walk_at "g"
      refine ⟨_, _, rfl, .inl ⟨_, SqL.of b6.d, rfl⟩, ?_⟩
      walk_at "g"
      refine ⟨p, q, (vs.length : Int) + 1, _, rfl, b6.bag, by omega, by omega, bigD _ (by omega) (by omega), fun va H7 k7 hB7 va0 va1 => ?_⟩
      have b7 := b6.go k7 hB7
      obtain ⟨a, rfl⟩ : ∃ n : Nat, va = (n : Int) := ⟨va.toNat, by omega⟩
      clear b6 k7 hB7
      obtain ⟨_, _, _, hq7⟩ := id b7.bag.at_
      walk_at "g"
      refine ⟨.inl ⟨rfl, _, SqL.of b7.d⟩, ?_⟩
      walk_at "g"
      refine ⟨p, q, _, rfl, b7.bag, by omega, fun wv H8 k8 hB8 hw fr => ?_⟩
      have b8 := b7.go k8 hB8
      have nw : NoD D q wv := ⟨fr D _ b7.d, fr q _ hq7⟩
      clear b7 k8 hB8 fr hq7
      walk_at "g"
      refine ⟨D, vs, (a : Int), wv, rfl, rfl, b8.d, Nat.lt_of_lt_of_le (show vs.length < 100 by omega) (by decide), by omega, by omega, ?_⟩
      rw [Int.toNat_natCast]
      have k9 := kp_upd D H8 (.lst (vs.take a ++ [wv] ++ vs.drop a))
      have hd9 : upd H8 D (.lst (vs.take a ++ [wv] ++ vs.drop a)) D = some (.lst (vs.take a ++ [wv] ++ vs.drop a)) := upd_same
      have pp9 : P2 (ItL D q (upd H8 D (.lst (vs.take a ++ [wv] ++ vs.drop a)))) (vs.take a ++ [wv] ++ vs.drop a) (os.take a ++ [none] ++ os.drop a) := by
        have p8 := b8.pp.mono fun _ _ e => e.kpD k9
        have pw : ItL D q (upd H8 D (.lst (vs.take a ++ [wv] ++ vs.drop a))) wv none := ItL.kpD (o := none) k9 ⟨nw, hw⟩
        exact ((p8.take a).snoc pw).app (p8.drop a)
      obtain ⟨_, _, hp8, _⟩ := id b8.bag.at_
      have hB9 := b8.bag.wr (o := .lst (vs.take a ++ [wv] ++ vs.drop a)) (l := D) (ne_of b8.d hp8 (by intro z; cases z)) nDq
      have hl9 := k9 _ _ b8.l nLD
      have t19 := k9 _ _ b8.t1 (ne_of b8.t1 b8.d (by intro z; cases z))
      have t29 := k9 _ _ b8.t2 (ne_of b8.t2 b8.d (by intro z; cases z))
      have w9 := b8.w.ins (a := a) (by omega)
      generalize upd H8 D (.lst (vs.take a ++ [wv] ++ vs.drop a)) = H9 at *
      clear b8 k9 hp8 hw nw
      walk_at "g"
      refine ⟨⟨_, SqL.of hl9⟩, fun B nB => ?_⟩
      have wl : Walk (Itl K L) ps.length (fun H => SqL K H L (ps.map fun (i : Nat) => V.int (i : Int))) (YAt (ps.map fun (i : Nat) => V.int (i : Int))) := by
        have := walk_list (K := K) (a := L) (xs := ps.map fun (i : Nat) => V.int (i : Int))
        rwa [List.length_map] at this
      refine lc_gen wl (fun n => [some (.ref a0), some (.ref p), some (.ref D), some (.ref L), some (.int (0 + (i : Int))), some (.int (a : Int)), none, none, none, none, none, none, some (.int (n : Int)), none]) (fun _ => true) (fun y n _ => y = .int ((shf a n : Nat) : Int)) (fun _ _ _ _ _ _ _ e => e) nB (by omega) (fun H s => SqL.of (s _ _ hl9)) ?_ (fun _ _ => rfl) (fun c _ H Q _ q => q H (Same.refl H)) ?_ ?_
      · rintro j H2 y H2' n hn s2 ⟨rfl, hy⟩
        rw [List.getElem?_map, hn] at hy
        cases hy
        exact ⟨Same.refl _, fun Q q => q⟩
      · intro n hn _ H2 Q2 s2 q2
        walk_at "g"
        refine .inr ⟨_, rfl, ?_⟩
        walk_at "g"
        refine q2 _ _ (Same.refl _) ?_
        show V.int ((n : Int) + (if decide ((a : Int) ≤ (n : Int)) = true then 1 else 0)) = _
        unfold shf
        by_cases h : a ≤ n
        · rw [if_pos h, if_pos (decide_eq_true (by omega))]
          rfl
        · rw [if_neg h, if_neg (by rw [decide_eq_false (by omega)]; exact Bool.false_ne_true), Int.add_zero]
      intro ys Ha sa hBa py
      rw [filter_all] at py
      have ey := py.eq_map
      subst ey
      walk_at "g"
      refine ⟨by show 1 ≤ sizeLine; decide, fun l1 nl1 => ?_⟩
      have sb := same_upd (o := .lst [.int (a : Int)]) nl1
      have hl1 : upd Ha l1 (.lst [.int (a : Int)]) l1 = some (.lst [.int (a : Int)]) := upd_same
      have hBb := sb _ _ hBa
      generalize upd Ha l1 (.lst [.int (a : Int)]) = Hb at *
      walk_at "g"
      refine ⟨B, l1, _, _, rfl, rfl, hBb, hl1, ?_, fun L2 nL2 => ?_⟩
      · rw [List.length_map]
        exact Nat.le_trans (show _ ≤ 100 by show ps.length + 1 ≤ 100; omega) (by decide)
      have sc := same_upd (o := .lst ((ps.map fun (n : Nat) => V.int ((shf a n : Nat) : Int)) ++ [.int (a : Int)])) nL2
      have s9c := (sa.trans sb).trans sc
      have hdc := s9c _ _ hd9
      refine ⟨L2, _, _, _, os.take a ++ [none] ++ os.drop a, ps.map (shf a) ++ [a], rfl, ⟨(hB9.same s9c).mono (by omega), hdc, pp9.mono fun _ _ e => e.same s9c, ?_, s9c _ _ t19, s9c _ _ t29, w9⟩, fun e => ?_, ?_, ?_⟩
      · rw [List.map_append, List.map_map]
        exact upd_same
      · rw [e] at nL2
        rw [((sa.trans sb)) _ _ hd9] at nL2
        cases nL2
      · rw [List.length_append, List.length_append, List.length_take, List.length_drop]
        show _ + 1 + _ ≤ _
        omega
      · rw [List.length_append, List.length_map]
        show _ + 1 = _
        omega
    clear b5 nLD lcs
    rintro σ H6 ⟨L, w4, w5, vs, os, ps, rfl, b6, nLD, hlo, hlp⟩
    walk_at "g"
    refine ⟨by show 0 ≤ sizeLine; decide, fun e0 ne0 => ?_⟩
    have s7 := same_upd (o := .lst []) ne0
    have he0 : upd H6 e0 (.lst []) e0 = some (.lst []) := upd_same
    have b7 := b6.same s7
    generalize upd H6 e0 (.lst []) = H7 at *
    clear b6 s7 ne0
    have hlv := b7.pp.len
    by_cases hps : ps = []
    · subst hps
      refine ⟨L, e0, [], [], rfl, rfl, SqL.of b7.l, SqL.of he0, .inr ⟨rfl, rfl, ?_⟩⟩
      refine ⟨false, rfl, ?_⟩
      refine iteF ?_
      walk_at "g"
      have nn : ∀ o ∈ os, o ≠ none := fun o ho e => by
        obtain ⟨j, hj', ej⟩ := List.mem_iff_getElem.mp ho
        have := (b7.w j).mp (by rw [List.getElem?_eq_getElem hj', ej, e])
        cases this
      obtain ⟨cs, rfl, pc, hL, hN⟩ := cs_of b7.pp nn
      rw [List.length_map] at hlo hlv
      refine hk2 _ _ Q p q D _ vs cs _ _ _ _ _ _ _ _ _ _ _ _ rfl ⟨b7.bag, fun pr hpr => ?_⟩ (by omega) b7.d nDq pc hL hN (by omega) k
      rw [List.mem_singleton.mp hpr]
      exact LamX.TabS.nil b7.t2
    refine ⟨L, e0, _, [], rfl, rfl, SqL.of b7.l, SqL.of he0, .inl ⟨by
      rw [List.length_map]
      intro e
      exact hps (List.length_eq_zero_iff.mp e), ?_⟩⟩
    walk_at "g"
    refine ⟨fun σ' H' => ∃ g, σ' = [some (.ref a0), some (.ref p), some (.ref D), some (.ref L), w4, w5, some (.ref g), none, none, none, none, none, none, none] ∧ PaS K H' g vs ∧ (∃ M, B01 p q D L Pt Pt2 M vs os ps H'), ?_, ?_⟩
    · walk_at "g"
      refine ⟨p, q, 2, _, rfl, b7.bag, by omega, by decide, bigD _ (by decide) (by decide), fun v8 H8 k8 hB8 v80 v81 => ?_⟩
      have b8 := b7.go k8 hB8
      walk_at "g"
      refine iteB (fun c1 => ?_) (fun c1 => ?_)
      · walk_at "g"
        refine ⟨D, vs, rfl, .inl ⟨SqL.of b8.d, fun g ng => ?_⟩⟩
        exact ⟨g, rfl, .inr (SqT.of upd_same), _, b8.same (same_upd ng)⟩
      · walk_at "g"
        refine ⟨D, vs, rfl, .inl (SqL.of b8.d), fun g ng => ?_⟩
        exact ⟨g, rfl, .inl (SqL.of upd_same), _, b8.same (same_upd ng)⟩
    rintro σ H8 ⟨g, rfl, hg, M, b8⟩
    clear b7 he0
    walk_at "g"
    refine ⟨fun pr hpr => ?_, fun Ha xa taba => ?_⟩
    · rcases List.mem_cons.mp hpr with rfl | hpr
      · exact LamX.TabS.nil b8.t1
      · rw [List.mem_singleton.mp hpr]
        exact LamX.TabS.nil b8.t2
    have ga : PaS K Ha g vs := by
      refine hg.imp (fun h => ?_) fun h => ?_
      · exact h.elim (fun h => .inl (h.elim (fun h => .inl (xa _ _ h (by intro _ z; cases z))) fun ⟨o, h⟩ => .inr ⟨o, xa _ _ h (by intro _ z; cases z)⟩)) fun h => .inr h
      · exact h.elim (fun h => .inl (h.elim (fun h => .inl (xa _ _ h (by intro _ z; cases z))) fun ⟨o, h⟩ => .inr ⟨o, xa _ _ h (by intro _ z; cases z)⟩)) fun h => .inr h
    have pa := b8.pp.mono fun _ _ e => e.ext xa
    have la := xa _ _ b8.l (by intro _ z; cases z)
    have wa := b8.w
    clear b8 hg xa taba
    unfold TTi
    walk_at "g"
    intro x dx nx ndx _
    have s9 := same_made (o := .ins (He.ga K "Numbers") dx []) (o2 := .own x) nx ndx
    refine ⟨x, dx, g, vs, os, rfl, upd_same, ga.same s9, pa.mono fun _ _ e => (e.same s9).itp, itl_bd pa, by omega, fun cs ds ns H' e _ _ _ _ => ?_, fun i cls d H' s' e1 e2 hb => ⟨i, hb, ?_⟩⟩
    · obtain ⟨j, ps', rfl⟩ := List.exists_cons_of_ne_nil hps
      have := (wa j).mpr List.mem_cons_self
      rw [e] at this
      exact (some_none this).elim
    have sb := s9.trans s'
    have lb := sb _ _ la
    clear ga pa la hb s9 s' sb nx ndx
    walk_at "g"
    refine ⟨⟨_, SqL.of lb⟩, fun B nB => ?_⟩
    have wl : Walk (Itl K L) ps.length (fun H => SqL K H L (ps.map fun (i : Nat) => V.int (i : Int))) (YAt (ps.map fun (i : Nat) => V.int (i : Int))) := by
      have := walk_list (K := K) (a := L) (xs := ps.map fun (i : Nat) => V.int (i : Int))
      rwa [List.length_map] at this
    refine lc_gen wl (fun n => [some (.ref a0), some (.ref p), some (.ref D), some (.ref L), w4, w5, some (.ref g), none, none, none, none, none, some (.int (n : Int)), none]) (fun _ => true) (fun y n _ => y = .int (n : Int)) (fun _ _ _ _ _ _ _ e => e) nB (by omega) (fun H s => SqL.of (s _ _ lb)) ?_ (fun _ _ => rfl) (fun c _ H Q _ q => q H (Same.refl H)) ?_ ?_
    · rintro j H2 y H2' n hn s2 ⟨rfl, hy⟩
      rw [List.getElem?_map, hn] at hy
      cases hy
      exact ⟨Same.refl _, fun Q q => q⟩
    · intro n hn _ H2 Q2 s2 q2
      walk_at "g"
      refine .inl ⟨_, rfl, ?_⟩
      exact q2 _ _ (Same.refl _) rfl
    intro ys Hc sc hBc py
    rw [filter_all] at py
    have ey := py.eq_map
    subst ey
    walk_at "g"
    refine ⟨B, ps.map fun (n : Nat) => (n : Int), rfl, SqL.of (by rw [hBc, List.map_map]; rfl), ?_, fun m hm hle => ?_⟩
    · rw [List.length_map]
      exact List.length_pos_iff.mpr hps
    obtain ⟨n, hn, rfl⟩ := List.mem_map.mp hm
    have hi := (wa i).mp e1
    have h1 : (n : Int) ≤ (i : Int) := hle _ (List.mem_map.mpr ⟨i, hi, rfl⟩)
    have h2 : ¬ n < i := fun h => e2 n h ((wa n).mpr hn)
    obtain rfl : n = i := by omega
    walk_at "g"
    rw [decide_eq_true (rfl : V.int (n : Int) = V.int (n : Int))]
    exact k _
end
end Tr

/-! # The head by facts: a hook of own booleans and of functions by their places. -/
namespace Tr
open PySem PySem.Spec PyProof.Rows L2
theorem _root_.L2.FnOk.to0 {P : Program} {w : World} {K : PySem.W.Frag} {mg : Str → Option Value} {base : Heap} {k : Nat} {f : Addr} {fd : FuncData} {ps : List Str} {sp : Sp} (F : FnOk P w K mg base (L2.CX P w) k f fd ps sp) (h : ∀ vs H Q E, sp vs H Q E → sp vs H Q E0) :
    FnOk P w K mg base CX0 k f fd ps sp := ⟨F.len, fun A outer s H args us vs Q E hr he hb hv hs => codeAny_mono (F.run A outer s H args us vs Q E0 hr he hb hv (h _ _ _ _ hs)) fun r s' q => by
  cases r with
  | error e =>
    obtain ⟨_, _, _, _, _, _, _, _, _, _, _, _, z⟩ := q
    exact z.elim
  | ok fl => cases fl <;> exact q⟩
theorem _root_.L2.FunD.fun_ {K : PySem.W.Frag} {x qual : Str} {st : Stmt} {f : Addr} {fd : FuncData} (F : FunD K x qual (defArgs st) (defBody st) (defScope st) [] [] f fd) : Fun K x qual st f fd := by
  obtain ⟨oc, od, dV, kV, doc, pm, an, cdv, ct, osl, e, lk, hcd, hD, _⟩ := F.ex
  rcases hD with ⟨_, rfl⟩ | ⟨e, _⟩
  · exact ⟨⟨oc, od, kV, doc, pm, an, cdv, ct, osl, e, lk, hcd⟩, F.kp⟩
  · exact absurd rfl e
/-- one def: its place, names, parameters, body, scope, defaults -/
structure DefX where
  at_ : PySem.W.Frag → Addr
  name : Str
  qual : Str
  params : Arguments
  body : List Stmt
  scope : Scope
  dfl : List He.Dv := []
  clo : List Str := []
  kwd : List (Str × He.Dv) := []
def DefX.val (d : DefX) : He.FnW := some (d.name, d.qual, d.params, .stmts d.body, d.scope, mainGlobals, d.clo.map (·, 0), builtinsNs)
def fnX (K : PySem.W.Frag) (a : Addr) : He.FnW := match K.lookup a with
  | some ⟨_, _, .func fd, _⟩ => some (fd.name, fd.qualname, fd.params, fd.body, fd.scope, fd.globals, fd.closure.map fun p => (p.1, 0), fd.builtins)
  | _ => none
def DefX.ok (K : PySem.W.Frag) (d : DefX) : Bool := PySem.W.keepIn K (.ref (d.at_ K)) && (match K.lookup (d.at_ K) with
  | some ⟨_, _, .func fd, _⟩ => PySem.W.codeIn K fd.code d.qual && (He.dflB K fd.defaults (d.dfl.map (He.Dv.v K)) && He.kwdB K fd.kwdefaults (d.kwd.map fun q => (q.1, He.Dv.v K q.2)))
  | _ => false)
theorem DefX.funD {K : PySem.W.Frag} {d : DefX} (hc : d.clo = []) (e : fnX K (d.at_ K) = d.val) (c : d.ok K = true) : ∃ fd, FunD K d.name d.qual d.params d.body d.scope (d.dfl.map (He.Dv.v K)) (d.kwd.map fun q => (q.1, He.Dv.v K q.2)) (d.at_ K) fd := by
  obtain ⟨kp, c2⟩ := He.ba c
  unfold fnX at e
  cases q : K.lookup (d.at_ K) with
  | none =>
    rw [q] at c2
    cases c2
  | some o =>
    obtain ⟨oc, od, dt, osl⟩ := o
    rw [q] at c2 e
    cases dt with
    | func fd =>
      obtain ⟨n1, n2, n3, n4, n5, n6, n7, n8, n9, n10, n11, n12, n13, n14, n15⟩ := fd
      have e2 : (some (n1, n2, n3, n4, n5, n6, n7.map fun p => (p.1, 0), n15) : He.FnW) = some (d.name, d.qual, d.params, .stmts d.body, d.scope, mainGlobals, d.clo.map (·, 0), builtinsNs) := e
      rw [hc] at e2
      simp only [Option.some.injEq, Prod.mk.injEq, List.map_nil, List.map_eq_nil_iff] at e2
      obtain ⟨h1, h2, h3, h4, h5, h6, h7, h8⟩ := e2
      subst h1 h2 h3 h4 h5 h6 h7 h8
      have c3 : (PySem.W.codeIn K n13 d.qual && (He.dflB K n8 (d.dfl.map (He.Dv.v K)) && He.kwdB K n9 (d.kwd.map fun q => (q.1, He.Dv.v K q.2)))) = true := c2
      obtain ⟨k1, k2⟩ := He.ba c3
      obtain ⟨k3, k4⟩ := He.ba k2
      exact ⟨_, ⟨oc, od, n8, n9, n10, n11, n12, n13, n14, osl, rfl, q, k1, He.dflB_ok k3, He.kwdB_ok k4⟩, kp⟩
    | _ => cases c2
abbrev AlX : Type := Bool × List He.FnW
def obsX (fb : List (PySem.W.Frag → Bool)) (fx : List DefX) (K : PySem.W.Frag) : AlX := ((fb.all fun f => f K) && fx.all fun d => d.ok K, fx.map fun d => fnX K (d.at_ K))
def valX (fx : List DefX) : AlX := (true, fx.map DefX.val)
def SaysX (fb : List (PySem.W.Frag → Bool)) (fx : List DefX) (K : PySem.W.Frag) : Prop := obsX fb fx K = valX fx
/-- what the module's names and the C statics reach in n steps -/
def asX (g : Addr → Option Obj) : Nat → List Addr
  | 0 => [mainGlobals, cStatics]
  | n + 1 => He.growD g (asX g n)
def obsXG (n : Nat) (fb : List (PySem.W.Frag → Bool)) (fx : List DefX) (g : Addr → Option Obj) : AlX := obsX fb fx (He.frG g (asX g n))
def hookX (n : Nat) (fb : List (PySem.W.Frag → Bool)) (fx : List DefX) : PySem.W.Hook where
  α := AlX
  obs := fun s => obsXG n fb fx s.heap.get?
  val := fun _ => valX fx
  says := fun _ h => ∃ K : PySem.W.Frag, K.In h ∧ SaysX fb fx K
  of := fun _ _ e => ⟨_, He.frG_in, e⟩
  keeps := fun _ _ _ ⟨K, hK, c⟩ k => ⟨K, PySem.W.Frag.In.keeps hK k, c⟩
theorem obsXG_eq {n : Nat} {fb : List (PySem.W.Frag → Bool)} {fx : List DefX} {g : Addr → Option Obj} {s : Shared} (h : ∀ a, g a = s.heap.get? a) : obsXG n fb fx g = (hookX n fb fx).obs s := by
  have e : g = s.heap.get? := funext h
  rw [e] <;> rfl
/-- the same, over addresses that are written out -/
def obsXL (as : List Addr) (fb : List (PySem.W.Frag → Bool)) (fx : List DefX) (g : Addr → Option Obj) : AlX := obsX fb fx (He.frG g as)
def hookL (as : List Addr) (fb : List (PySem.W.Frag → Bool)) (fx : List DefX) : PySem.W.Hook where
  α := AlX
  obs := fun s => obsXL as fb fx s.heap.get?
  val := fun _ => valX fx
  says := fun _ h => ∃ K : PySem.W.Frag, K.In h ∧ SaysX fb fx K
  of := fun _ _ e => ⟨_, He.frG_in, e⟩
  keeps := fun _ _ _ ⟨K, hK, c⟩ k => ⟨K, PySem.W.Frag.In.keeps hK k, c⟩
theorem obsXL_eq {as : List Addr} {fb : List (PySem.W.Frag → Bool)} {fx : List DefX} {g : Addr → Option Obj} {s : Shared} (h : ∀ a, g a = s.heap.get? a) : obsXL as fb fx g = (hookL as fb fx).obs s := by
  have e : g = s.heap.get? := funext h
  rw [e] <;> rfl
section
variable {fb : List (PySem.W.Frag → Bool)} {fx : List DefX} {K : PySem.W.Frag}
theorem SaysX.fact (c : SaysX fb fx K) (i : Nat) {f : PySem.W.Frag → Bool} (h : fb[i]? = some f := by rfl) : f K = true := by
  have c1 := (He.ba (show ((fb.all fun f => f K) && fx.all fun d => d.ok K) = true from congrArg (fun z : AlX => z.1) c)).1
  exact List.all_eq_true.mp c1 f (List.mem_of_getElem? h)
theorem SaysX.def_ (c : SaysX fb fx K) (i : Nat) {d : DefX} (h : fx[i]? = some d := by rfl) (hc : d.clo = [] := by rfl) : ∃ fd, FunD K d.name d.qual d.params d.body d.scope (d.dfl.map (He.Dv.v K)) (d.kwd.map fun q => (q.1, He.Dv.v K q.2)) (d.at_ K) fd := by
  have c2 := (He.ba (show ((fb.all fun f => f K) && fx.all fun d => d.ok K) = true from congrArg (fun z : AlX => z.1) c)).2
  have e : fx.map (fun d => fnX K (d.at_ K)) = fx.map DefX.val := congrArg (fun z : AlX => z.2) c
  have e2 : (fx.map fun d => fnX K (d.at_ K))[i]? = (fx.map DefX.val)[i]? := by rw [e]
  rw [List.getElem?_map, List.getElem?_map, h] at e2
  exact DefX.funD hc (Option.some.inj e2) (List.all_eq_true.mp c2 d (List.mem_of_getElem? h))
end
/-! ### own facts -/
def gof (kind : String) (K : PySem.W.Frag) (p : Addr) : Addr := match PySem.W.recIn K p kind with
  | some (.ref g :: _) => g
  | _ => 0
def decO (a : Option (Option Value)) (b : Option (Option Value)) : Bool := decide (a = b)
def propB (x m : Str) (K : PySem.W.Frag) : Bool :=
  decO (PySem.W.findIn K (.ref (He.ga K x)) m) (some (some (.ref (He.ma K (He.ga K x) m)))) && (decO (PySem.W.specialIn K (.ref (He.ma K (He.ga K x) m)) "__get__") (some (some (.builtin "property.__get__"))) &&
    (decide (PySem.W.takesIn K (.ref (He.ma K (He.ga K x) m)) = some true) && (match PySem.W.recIn K (He.ma K (He.ga K x) m) "property" with
      | some (.ref _ :: _) => true
      | _ => false)))
theorem propB_ok {x m : Str} {K : PySem.W.Frag} (h : propB x m K = true) : PropOf K (He.ga K x) m (He.ma K (He.ga K x) m) (gof "property" K (He.ma K (He.ga K x) m)) := by
  obtain ⟨h1, h⟩ := He.ba h
  obtain ⟨h2, h⟩ := He.ba h
  obtain ⟨h3, h4⟩ := He.ba h
  refine ⟨of_decide_eq_true h1, of_decide_eq_true h2, of_decide_eq_true h3, ?_⟩
  unfold gof
  split at h4
  · rename_i g r e
    rw [e]
    exact ⟨r, rfl⟩
  · cases h4
def isoB (x : Str) (K : PySem.W.Frag) : Bool :=
  decO (PySem.W.findIn K (.ref (He.ga K x)) "__class__") (some (some (.builtin "object.__class__"))) && (decO (PySem.W.specialIn K (.builtin "object.__class__") "__get__") (some (some (.builtin "getset_descriptor.__get__"))) &&
    (decide (PySem.W.takesIn K (.builtin "object.__class__") = some true) && decide (PySem.W.mroIn K (He.ga K x) (.type "object") = some true)))
theorem isoB_ok {x : Str} {K : PySem.W.Frag} (h : isoB x K = true) : IsO K (He.ga K x) := by
  obtain ⟨h1, h⟩ := He.ba h
  obtain ⟨h2, h⟩ := He.ba h
  obtain ⟨h3, h4⟩ := He.ba h
  exact ⟨of_decide_eq_true h1, of_decide_eq_true h2, of_decide_eq_true h3, of_decide_eq_true h4⟩
def kindB (x : Str) (K : PySem.W.Frag) : Bool := bNames.all fun n => decide (PySem.W.kitOne K (.type n) (.ref (He.ga K x)) = some false) && (decide (PySem.W.subIn K (.type n) (.ref (He.ga K x)) = some false) && decide (PySem.W.subIn K (.ref (He.ga K x)) (.type n) = some false))
theorem kindB_ok {x : Str} {K : PySem.W.Frag} (h : kindB x K = true) : KindO K (He.ga K x) := by
  have g : ∀ n ∈ bNames, PySem.W.kitOne K (.type n) (.ref (He.ga K x)) = some false ∧ PySem.W.subIn K (.type n) (.ref (He.ga K x)) = some false ∧ PySem.W.subIn K (.ref (He.ga K x)) (.type n) = some false := fun n hn => by
    have := List.all_eq_true.mp h n hn
    rw [Bool.and_eq_true, Bool.and_eq_true, decide_eq_true_eq, decide_eq_true_eq, decide_eq_true_eq] at this
    exact this
  exact ⟨fun n hn => (g n hn).1, fun n hn => (g n hn).2.1, fun n hn => (g n hn).2.2⟩
def neB_ (x : Str) (K : PySem.W.Frag) : Bool := decO (PySem.W.findIn K (.ref (He.ga K x)) "__ne__") (some (some (.builtin "object.__ne__"))) && decide (PySem.W.mroIn K (He.ga K x) (.type "object") = some true)
theorem neB_ok {x : Str} {K : PySem.W.Frag} (h : neB_ x K = true) : NeOf K (He.ga K x) := by
  obtain ⟨h1, h2⟩ := He.ba h
  exact ⟨of_decide_eq_true h1, of_decide_eq_true h2⟩
end Tr

namespace Tr
open PySem PySem.Spec PyProof.Rows L2
/-- static methods: for texts that hold A6 -/
def cfIs (r : Option PySem.W.CFound) (p C : Addr) : Bool := match r with
  | some (.get (.builtin b) (.ref q) .none (.ref D)) => decide (b = "staticmethod.__get__") && (decide (q = p) && decide (D = C))
  | _ => false
theorem cfIs_ok {r : Option PySem.W.CFound} {p C : Addr} (h : cfIs r p C = true) : r = some (.get (.builtin "staticmethod.__get__") (.ref p) .none (.ref C)) := by
  unfold cfIs at h
  split at h
  · obtain ⟨h1, h⟩ := He.ba h
    obtain ⟨h2, h3⟩ := He.ba h
    rw [of_decide_eq_true h1, of_decide_eq_true h2, of_decide_eq_true h3]
  · cases h
def smB (x m : Str) (K : PySem.W.Frag) : Bool := PySem.W.readsIn K (He.ga K x) (.type "type") && (decO (PySem.W.specialIn K (.ref (He.ga K x)) "__getattribute__") (some (some (.builtin "type.__getattribute__"))) &&
  (cfIs (PySem.W.findCls K (.ref (He.ga K x)) (.type "type") m) (He.ma K (He.ga K x) m) (He.ga K x) && ((match PySem.W.recIn K (He.ma K (He.ga K x) m) "staticmethod" with
    | some (.ref _ :: _) => true
    | _ => false) && PySem.W.keepIn K (.ref (gof "staticmethod" K (He.ma K (He.ga K x) m))))))
theorem smB_ok {x m : Str} {K : PySem.W.Frag} (h : smB x m K = true) : SMet K (He.ga K x) m (He.ma K (He.ga K x) m) (gof "staticmethod" K (He.ma K (He.ga K x) m)) := by
  obtain ⟨h1, h⟩ := He.ba h
  obtain ⟨h2, h⟩ := He.ba h
  obtain ⟨h3, h⟩ := He.ba h
  obtain ⟨h4, h5⟩ := He.ba h
  refine ⟨h1, of_decide_eq_true h2, cfIs_ok h3, ?_, h5⟩
  unfold gof
  split at h4
  · rename_i g r e
    rw [e]
    exact ⟨r, rfl⟩
  · cases h4
end Tr

/-! # The head's facts on own exceptions (wants A14). -/
namespace Tr
open PySem PySem.Spec PyProof.Rows L2
def cellB (K : PySem.W.Frag) (cc C : Addr) : Bool := match K.lookup cc with
  | some ⟨_, _, .cell (some v), _⟩ => decide (v = .ref C)
  | _ => false
theorem cellB_ok {K : PySem.W.Frag} {cc C : Addr} (h : cellB K cc C = true) : ∃ cl cld csl, K.lookup cc = some ⟨cl, cld, .cell (some (.ref C)), csl⟩ := by
  unfold cellB at h
  split at h
  · rename_i a b v d e
    have := of_decide_eq_true h
    subst this
    exact ⟨_, _, _, e⟩
  · cases h
def fileB (K : PySem.W.Frag) (cdv : Value) : Bool := match cdv with
  | .ref c => (match K.lookup c with
    | some ⟨_, _, .fields vs, _⟩ => (match (vs[2]? : Option Value) with
      | some (Value.str n _) => n == ("/claim/cut.py" : Str)
      | _ => false)
    | _ => false)
  | _ => false
theorem fileB_ok {K : PySem.W.Frag} {cdv : Value} (h : fileB K cdv = true) : ∃ cda ccl cdd ccs, ∃ (vs : Array Value) (tf : Tok), cdv = .ref cda ∧ K.lookup cda = some ⟨ccl, cdd, .fields vs, ccs⟩ ∧ vs[2]? = some (.str "/claim/cut.py" tf) := by
  unfold fileB at h
  split at h
  · split at h
    · split at h
      · rename_i c a b vs d e x n t e2
        have := eq_of_beq h
        subst this
        exact ⟨_, _, _, _, _, _, rfl, e, e2⟩
      · cases h
    · cases h
  · cases h
def closB (K : PySem.W.Frag) (C : Addr) : List (Str × Addr) → Bool
  | [(_, cc)] => cellB K cc C
  | _ => false
def exnFnB (K : PySem.W.Frag) (f C : Addr) : Bool := match K.lookup f with
  | some ⟨_, _, .func fd, _⟩ => closB K C fd.closure && fileB K fd.code
  | _ => false
/-- a def with the cell of __class__ -/
theorem DefX.funC {K : PySem.W.Frag} {d : DefX} {C : Addr} (hc : d.clo = [("__class__" : Str)]) (hd : d.dfl = []) (e : fnX K (d.at_ K) = d.val) (c : d.ok K = true) (h : exnFnB K (d.at_ K) C = true) :
    ∃ (cc cda : Addr) (kV doc pm ct oc ccl cl : Value) (an od cdd cld : Option Addr) (osl ccs csl : Array (Option Value)) (vs : Array Value) (tf : Tok),
      K.lookup (d.at_ K) = some ⟨oc, od, .func (PySem.W.fnX d.name d.qual d.params d.body d.scope [("__class__", cc)] .none kV doc pm an (.ref cda) ct), osl⟩ ∧ PySem.W.codeIn K (.ref cda) d.qual = true ∧
      K.lookup cda = some ⟨ccl, cdd, .fields vs, ccs⟩ ∧ vs[2]? = some (.str "/claim/cut.py" tf) ∧ K.lookup cc = some ⟨cl, cld, .cell (some (.ref C)), csl⟩ := by
  obtain ⟨kp, c2⟩ := He.ba c
  unfold fnX at e
  unfold exnFnB at h
  cases q : K.lookup (d.at_ K) with
  | none =>
    rw [q] at c2
    cases c2
  | some o =>
    obtain ⟨oc, od, dt, osl⟩ := o
    rw [q] at c2 e h
    cases dt with
    | func fd =>
      obtain ⟨n1, n2, n3, n4, n5, n6, n7, n8, n9, n10, n11, n12, n13, n14, n15⟩ := fd
      have e2 : (some (n1, n2, n3, n4, n5, n6, n7.map fun p => (p.1, 0), n15) : He.FnW) = some (d.name, d.qual, d.params, .stmts d.body, d.scope, mainGlobals, d.clo.map (·, 0), builtinsNs) := e
      rw [hc] at e2
      simp only [Option.some.injEq, Prod.mk.injEq] at e2
      obtain ⟨h1, h2, h3, h4, h5, h6, h7, h8⟩ := e2
      subst h1 h2 h3 h4 h5 h6 h8
      have c3 : (PySem.W.codeIn K n13 d.qual && (He.dflB K n8 (d.dfl.map (He.Dv.v K)) && He.kwdB K n9 (d.kwd.map fun q => (q.1, He.Dv.v K q.2)))) = true := c2
      obtain ⟨k1, k2⟩ := He.ba c3
      obtain ⟨k3, k4⟩ := He.ba k2
      rw [hd] at k3
      obtain rfl : n8 = .none := by
        rcases He.dflB_ok k3 with ⟨_, z⟩ | ⟨z, _⟩
        · exact z
        · exact absurd rfl z
      have h' : (closB K C n7 && fileB K n13) = true := h
      obtain ⟨g1, g2⟩ := He.ba h'
      obtain ⟨cda, ccl, cdd, ccs, vs, tf, rfl, f1, f2⟩ := fileB_ok g2
      match n7, h7, g1 with
      | [(n, cc)], h7, g1 =>
        obtain ⟨cl, cld, csl, f3⟩ := cellB_ok g1
        have : n = "__class__" := by
          have z : [(n, 0)] = [(("__class__" : Str), 0)] := h7
          exact (Prod.mk.inj (List.cons.inj z).1).1
        subst this
        exact ⟨_, _, _, _, _, _, _, _, _, _, _, _, _, _, _, _, _, _, rfl, k1, f1, f2, f3⟩
      | [], h7, g1 => cases g1
      | _ :: _ :: _, h7, g1 => cases g1
    | _ => cases c2
theorem SaysX.defC {fb : List (PySem.W.Frag → Bool)} {fx : List DefX} {K : PySem.W.Frag} {C : Addr} (c : SaysX fb fx K) (i : Nat) {d : DefX} (h : fx[i]? = some d) (hc : d.clo = [("__class__" : Str)]) (hd : d.dfl = []) (hf : exnFnB K (d.at_ K) C = true) :
    ∃ (cc cda : Addr) (kV doc pm ct oc ccl cl : Value) (an od cdd cld : Option Addr) (osl ccs csl : Array (Option Value)) (vs : Array Value) (tf : Tok),
      K.lookup (d.at_ K) = some ⟨oc, od, .func (PySem.W.fnX d.name d.qual d.params d.body d.scope [("__class__", cc)] .none kV doc pm an (.ref cda) ct), osl⟩ ∧ PySem.W.codeIn K (.ref cda) d.qual = true ∧
      K.lookup cda = some ⟨ccl, cdd, .fields vs, ccs⟩ ∧ vs[2]? = some (.str "/claim/cut.py" tf) ∧ K.lookup cc = some ⟨cl, cld, .cell (some (.ref C)), csl⟩ := by
  have c2 := (He.ba (show ((fb.all fun f => f K) && fx.all fun d => d.ok K) = true from congrArg (fun z : AlX => z.1) c)).2
  have e : fx.map (fun d => fnX K (d.at_ K)) = fx.map DefX.val := congrArg (fun z : AlX => z.2) c
  have e2 : (fx.map fun d => fnX K (d.at_ K))[i]? = (fx.map DefX.val)[i]? := by rw [e]
  rw [List.getElem?_map, List.getElem?_map, h] at e2
  exact DefX.funC hc hd (Option.some.inj e2) (List.all_eq_true.mp c2 d (List.mem_of_getElem? h)) hf
/-- the class -/
def oexB (K : PySem.W.Frag) (C : Addr) : Bool := (match K.lookup C with
  | some ⟨.type "type", _, .cls cd, sl⟩ => (match cd.mro, sl.toList with
    | .ref C' :: bm, [_, _, _, _, some (.builtin n), _] => C' == C && n == "ValueError.__new__" && !cd.hasDel && cd.hasDict && PySem.HandSPX.refsVE bm
    | _, _ => false)
  | _ => false) && (decO (PySem.W.findIn K (.ref C) "__setattr__") (some (some (.builtin "object.__setattr__"))) && (decide (PySem.W.subIn K (.ref C) (.type "BaseException") = some true) && (decide (PySem.W.typeIn K (.ref C) = some (.type "type")) && PySem.W.keepIn K (.ref C))))
theorem oexB_ok {K : PySem.W.Frag} {C : Addr} (h : oexB K C = true) : OexC K C := by
  obtain ⟨q, h⟩ := He.ba h
  obtain ⟨h1, h⟩ := He.ba h
  obtain ⟨h2, h⟩ := He.ba h
  obtain ⟨h3, h4⟩ := He.ba h
  refine ⟨?_, of_decide_eq_true h1, of_decide_eq_true h2, of_decide_eq_true h3, h4⟩
  split at q
  · rename_i dd cd sl ho
    split at q
    · rename_i C' bm k0 k1 k2 k3 n k5 hm hs
      simp only [Bool.and_eq_true, beq_iff_eq, Bool.not_eq_true'] at q
      obtain ⟨⟨⟨⟨rfl, rfl⟩, hdel⟩, hdc⟩, ht⟩ := q
      obtain ⟨nm, bs, mro, ns, qn, hd, sn, sub, ab, col, del⟩ := cd
      dsimp only at hm hdel hdc
      subst hm hdel hdc
      have hsl : sl = #[k0, k1, k2, k3, some (.builtin "ValueError.__new__"), k5] := by
        obtain ⟨l⟩ := sl
        simp only at hs
        rw [hs]
      subst hsl
      exact ⟨nm, qn, ns, bs, bm, sn, sub, ab, col, dd, k0, k1, k2, k3, k5, ho, ht⟩
    · cases q
  · cases q
def exnB (x : Str) (fs : List Str) (K : PySem.W.Frag) : Bool :=
  oexB K (He.ga K x) && (decO (PySem.W.findIn K (.ref (He.ga K x)) "__init__") (some (some (.ref (He.ma K (He.ga K x) "__init__")))) && (decide (PySem.W.typeIn K (.ref (He.ma K (He.ga K x) "__init__")) = some (.type "function")) && (exnFnB K (He.ma K (He.ga K x) "__init__") (He.ga K x) &&
    (decO (PySem.W.nsIn K cStatics "thirdparty.any") (some none) && (decO (PySem.W.ks_superIn K (He.ga K x) (He.ga K x) "__init__") (some (some (.builtin "ValueError.__init__"))) && (decide (PySem.W.mroIn K (He.ga K x) (.ref (He.ga K x)) = some true) &&
      (decide (PySem.W.subIn K (.ref (He.ga K x)) (.type "ValueError") = some true) && (xfB K (He.ga K x) && fs.all fun f => decO (PySem.W.findIn K (.ref (He.ga K x)) f) (some none)))))))))
theorem exnB_ok {fb : List (PySem.W.Frag → Bool)} {fx : List DefX} {K : PySem.W.Frag} {mg : Str → Option Value} {x qual : Str} {st : Stmt} {fs : List Str} (h : exnB x fs K = true) (g : mg x = some (.ref (He.ga K x))) (u : mg "super" = none) (c : SaysX fb fx K) (i : Nat)
    (hi : fx[i]? = some ⟨fun K => He.ma K (He.ga K x) "__init__", "__init__", qual, defArgs st, defBody st, defScope st, [], ["__class__"], []⟩) : Exn K mg x (He.ga K x) qual st fs := by
  obtain ⟨h1, h⟩ := He.ba h
  obtain ⟨h2, h⟩ := He.ba h
  obtain ⟨h3, h⟩ := He.ba h
  obtain ⟨h4, h⟩ := He.ba h
  obtain ⟨h5, h⟩ := He.ba h
  obtain ⟨h6, h⟩ := He.ba h
  obtain ⟨h7, h⟩ := He.ba h
  obtain ⟨h8, h⟩ := He.ba h
  obtain ⟨hx, h9⟩ := He.ba h
  obtain ⟨cc, cda, kV, doc, pm, ct, oc, ccl, cl, an, od, cdd, cld, osl, ccs, csl, vs, tf, e1, e2, e3, e4, e5⟩ := SaysX.defC c i hi rfl rfl h4
  exact ⟨oexB_ok h1, g, u, ⟨_, cc, cda, kV, doc, pm, ct, oc, ccl, cl, an, od, cdd, cld, osl, ccs, csl, vs, tf, of_decide_eq_true h2, of_decide_eq_true h3, e1, e2, e3, e4, e5⟩, of_decide_eq_true h5, of_decide_eq_true h6, of_decide_eq_true h7, of_decide_eq_true h8,
    fun f hf => of_decide_eq_true (List.all_eq_true.mp h9 f hf), xfB_ok hx⟩
end Tr

/-! # The head of a law that makes lambdas: its code object, the table of it (wants Y0). -/
namespace Tr
open PySem PySem.Spec PyProof.Rows L2
/-- the law's code object, its table -/
def lawC (K : PySem.W.Frag) : Addr := match K.lookup (He.ga K "law") with
  | some ⟨_, _, .func fd, _⟩ => (match fd.code with | .ref c => c | _ => 0)
  | _ => 0
def lawT (K : PySem.W.Frag) : Addr := match K.lookup (lawC K) with
  | some ⟨_, _, .fields vs, _⟩ => (match (vs[11]? : Option Value) with | some (.ref a) => a | _ => 0)
  | _ => 0
/-- the part without the table -/
def dropT (K : PySem.W.Frag) : PySem.W.Frag := K.filter fun p => p.1 != lawT K
def emptyB (K : PySem.W.Frag) (t : Addr) : Bool := match K.lookup t with
  | some ⟨.none, none, .fields vs, sl⟩ => vs.toList.isEmpty && sl.toList.isEmpty
  | _ => false
def ownB (K : PySem.W.Frag) (f c : Addr) : Bool := match K.lookup f with
  | some ⟨_, _, .func fd, _⟩ => (match fd.code with | .ref d => d == c | _ => false)
  | _ => false
def tabB (K : PySem.W.Frag) : Bool := PySem.W.codeHdIn K (lawC K) (lawT K) && (emptyB K (lawT K) && ownB (dropT K) (He.ga (dropT K) "law") (lawC K))
theorem lookup_filter {K : PySem.W.Frag} {a t : Addr} : (K.filter fun p => p.1 != t).lookup a = if a = t then none else K.lookup a := by
  induction K with
  | nil => split <;> rfl
  | cons p r ih =>
    obtain ⟨b, o⟩ := p
    by_cases hb : b = t
    · rw [List.filter_cons, if_neg (by simp [hb]), ih]
      by_cases ha : a = t
      · rw [if_pos ha, if_pos ha]
      · rw [if_neg ha, if_neg ha, List.lookup_cons]
        rw [beq_false_of_ne (fun e => ha (e.trans hb))]
    · rw [List.filter_cons, if_pos (by simp [hb]), List.lookup_cons, List.lookup_cons, ih]
      by_cases ha : a = b
      · subst ha
        simp [hb]
      · rw [beq_false_of_ne ha]
theorem dropT_in {K : PySem.W.Frag} {h : Heap} (X : K.In h) : (dropT K).In h := fun a o e => by
  unfold dropT at e
  rw [lookup_filter] at e
  split at e
  · cases e
  · exact X a o e
theorem dropT_no {K : PySem.W.Frag} : (dropT K).lookup (lawT K) = none := by
  unfold dropT
  rw [lookup_filter, if_pos rfl]
theorem emptyB_ok {K : PySem.W.Frag} {t : Addr} {h : Heap} (X : K.In h) (e : emptyB K t = true) : h.get? t = some { cls := .none, data := .fields #[] } := by
  unfold emptyB at e
  split at e
  · rename_i vs sl q
    obtain ⟨e1, e2⟩ := He.ba e
    have h1 : vs = #[] := by
      cases vs with
      | mk l => cases l with
        | nil => rfl
        | cons _ _ => cases e1
    have h2 : sl = #[] := by
      cases sl with
      | mk l => cases l with
        | nil => rfl
        | cons _ _ => cases e2
    subst h1 h2
    exact X _ _ q
  · cases e
theorem ownB_ok {K : PySem.W.Frag} {x qual : Str} {st : Stmt} {f c : Addr} {fd : FuncData} (F : Fun K x qual st f fd) (e : ownB K f c = true) : fd.code = .ref c := by
  obtain ⟨oc, od, kV, doc, pm, an, cdv, ct, osl, rfl, lk, _⟩ := F.ex
  unfold ownB at e
  rw [lk] at e
  cases cdv with
  | ref d =>
    have e2 : (d == c) = true := e
    exact congrArg Value.ref (eq_of_beq e2)
  | _ => cases e
def obsT (fb : List (PySem.W.Frag → Bool)) (fx : List DefX) (K : PySem.W.Frag) : AlX := (tabB K && (obsX fb fx (dropT K)).1, (obsX fb fx (dropT K)).2)
def SaysT (fb : List (PySem.W.Frag → Bool)) (fx : List DefX) (K : PySem.W.Frag) : Prop := obsT fb fx K = valX fx
theorem SaysT.tab {fb : List (PySem.W.Frag → Bool)} {fx : List DefX} {K : PySem.W.Frag} (c : SaysT fb fx K) : tabB K = true := (He.ba (show (tabB K && (obsX fb fx (dropT K)).1) = true from congrArg (fun z : AlX => z.1) c)).1
theorem SaysT.x {fb : List (PySem.W.Frag → Bool)} {fx : List DefX} {K : PySem.W.Frag} (c : SaysT fb fx K) : SaysX fb fx (dropT K) := by
  have h1 := (He.ba (show (tabB K && (obsX fb fx (dropT K)).1) = true from congrArg (fun z : AlX => z.1) c)).2
  have c' : obsT fb fx K = valX fx := c
  have h3 : (obsT fb fx K).2 = (valX fx).2 := by rw [c']
  have h2 : (obsX fb fx (dropT K)).2 = (valX fx).2 := h3
  show obsX fb fx (dropT K) = valX fx
  rw [← Prod.eta (obsX fb fx (dropT K)), h1, h2]
  rfl
def obsTG (n : Nat) (fb : List (PySem.W.Frag → Bool)) (fx : List DefX) (g : Addr → Option Obj) : AlX := obsT fb fx (He.frG g (asX g n))
def hookT (n : Nat) (fb : List (PySem.W.Frag → Bool)) (fx : List DefX) : PySem.W.Hook where
  α := AlX
  obs := fun s => obsTG n fb fx s.heap.get?
  val := fun _ => valX fx
  says := fun _ h => ∃ K : PySem.W.Frag, K.In h ∧ SaysT fb fx K
  of := fun _ _ e => ⟨_, He.frG_in, e⟩
  keeps := fun _ _ _ ⟨K, hK, c⟩ k => ⟨K, PySem.W.Frag.In.keeps hK k, c⟩
theorem obsTG_eq {n : Nat} {fb : List (PySem.W.Frag → Bool)} {fx : List DefX} {g : Addr → Option Obj} {s : Shared} (h : ∀ a, g a = s.heap.get? a) : obsTG n fb fx g = (hookT n fb fx).obs s := by
  have e : g = s.heap.get? := funext h
  rw [e] <;> rfl
/-- the same, over addresses that are written out: c the code object, t its table; the part K has no table -/
def tabB2 (K0 K : PySem.W.Frag) (c t : Addr) : Bool := PySem.W.codeHdIn K0 c t && (emptyB K0 t && (ownB K (He.ga K "law") c && (K.lookup t).isNone))
def obsT2 (as : List Addr) (c t : Addr) (fb : List (PySem.W.Frag → Bool)) (fx : List DefX) (g : Addr → Option Obj) : AlX := (tabB2 (He.frG g (t :: as)) (He.frG g as) c t && (obsX fb fx (He.frG g as)).1, (obsX fb fx (He.frG g as)).2)
def SaysT2 (c t : Addr) (fb : List (PySem.W.Frag → Bool)) (fx : List DefX) (K0 K : PySem.W.Frag) : Prop := tabB2 K0 K c t = true ∧ SaysX fb fx K
theorem SaysT2.of {c t : Addr} {fb : List (PySem.W.Frag → Bool)} {fx : List DefX} {K0 K : PySem.W.Frag} (e : (tabB2 K0 K c t && (obsX fb fx K).1, (obsX fb fx K).2) = valX fx) : SaysT2 c t fb fx K0 K := by
  obtain ⟨h0, h1⟩ := He.ba (show (tabB2 K0 K c t && (obsX fb fx K).1) = true from congrArg (fun z : AlX => z.1) e)
  have h3 : ((tabB2 K0 K c t && (obsX fb fx K).1, (obsX fb fx K).2) : AlX).2 = (valX fx).2 := by rw [e]
  have h2 : (obsX fb fx K).2 = (valX fx).2 := h3
  refine ⟨h0, ?_⟩
  show obsX fb fx K = valX fx
  rw [← Prod.eta (obsX fb fx K), h1, h2]
  rfl
def hookT2 (as : List Addr) (c t : Addr) (fb : List (PySem.W.Frag → Bool)) (fx : List DefX) : PySem.W.Hook where
  α := AlX
  obs := fun s => obsT2 as c t fb fx s.heap.get?
  val := fun _ => valX fx
  says := fun _ h => ∃ K0 K : PySem.W.Frag, K0.In h ∧ K.In h ∧ SaysT2 c t fb fx K0 K
  of := fun _ _ e => ⟨_, _, He.frG_in, He.frG_in, SaysT2.of e⟩
  keeps := fun _ _ _ ⟨K0, K, h0, h1, c⟩ k => ⟨K0, K, PySem.W.Frag.In.keeps h0 k, PySem.W.Frag.In.keeps h1 k, c⟩
theorem obsT2_eq {as : List Addr} {c t : Addr} {fb : List (PySem.W.Frag → Bool)} {fx : List DefX} {g : Addr → Option Obj} {s : Shared} (h : ∀ a, g a = s.heap.get? a) : obsT2 as c t fb fx g = (hookT2 as c t fb fx).obs s := by
  have e : g = s.heap.get? := funext h
  rw [e] <;> rfl
theorem map2 {α β : Type} {o : Option α} {f : α → Bool × β} {x : Bool} {y : β} (a : o.map (fun s => (f s).1) = some x) (b : o.map (fun s => (f s).2) = some y) : o.map (fun s => f s) = some (x, y) := by
  cases o with
  | none => cases a
  | some s =>
    have a := Option.some.inj a
    have b := Option.some.inj b
    show some (f s) = _
    rw [← a, ← b]
end Tr

/-! # The head of a law with two makers of lambdas (wants Y0t). -/
namespace Tr
open PySem PySem.Spec PyProof.Rows L2
def mkC (x : Str) (K : PySem.W.Frag) : Addr := match K.lookup (He.ga K x) with
  | some ⟨_, _, .func fd, _⟩ => (match fd.code with | .ref c => c | _ => 0)
  | _ => 0
def mkT (x : Str) (K : PySem.W.Frag) : Addr := match K.lookup (mkC x K) with
  | some ⟨_, _, .fields vs, _⟩ => (match (vs[11]? : Option Value) with | some (.ref a) => a | _ => 0)
  | _ => 0
/-- two code objects and their tables, written out; the part K has neither table -/
def tabB3 (K0 K : PySem.W.Frag) (c t c2 t2 : Addr) : Bool := PySem.W.codeHdIn K0 c t && (emptyB K0 t && (PySem.W.codeHdIn K0 c2 t2 && (emptyB K0 t2 && (ownB K (He.ga K "law") c && (ownB K (He.ga K "_law_short_right") c2 && ((K.lookup t).isNone && (K.lookup t2).isNone))))))
def obsT3 (as : List Addr) (c t c2 t2 : Addr) (fb : List (PySem.W.Frag → Bool)) (fx : List DefX) (g : Addr → Option Obj) : AlX := (tabB3 (He.frG g (t :: t2 :: as)) (He.frG g as) c t c2 t2 && (obsX fb fx (He.frG g as)).1, (obsX fb fx (He.frG g as)).2)
def SaysT3 (c t c2 t2 : Addr) (fb : List (PySem.W.Frag → Bool)) (fx : List DefX) (K0 K : PySem.W.Frag) : Prop := tabB3 K0 K c t c2 t2 = true ∧ SaysX fb fx K
theorem SaysT3.of {c t c2 t2 : Addr} {fb : List (PySem.W.Frag → Bool)} {fx : List DefX} {K0 K : PySem.W.Frag} (e : (tabB3 K0 K c t c2 t2 && (obsX fb fx K).1, (obsX fb fx K).2) = valX fx) : SaysT3 c t c2 t2 fb fx K0 K := by
  obtain ⟨h0, h1⟩ := He.ba (show (tabB3 K0 K c t c2 t2 && (obsX fb fx K).1) = true from congrArg (fun z : AlX => z.1) e)
  have h3 : ((tabB3 K0 K c t c2 t2 && (obsX fb fx K).1, (obsX fb fx K).2) : AlX).2 = (valX fx).2 := by rw [e]
  have h2 : (obsX fb fx K).2 = (valX fx).2 := h3
  refine ⟨h0, ?_⟩
  show obsX fb fx K = valX fx
  rw [← Prod.eta (obsX fb fx K), h1, h2]
  rfl
def hookT3 (as : List Addr) (c t c2 t2 : Addr) (fb : List (PySem.W.Frag → Bool)) (fx : List DefX) : PySem.W.Hook where
  α := AlX
  obs := fun s => obsT3 as c t c2 t2 fb fx s.heap.get?
  val := fun _ => valX fx
  says := fun _ h => ∃ K0 K : PySem.W.Frag, K0.In h ∧ K.In h ∧ SaysT3 c t c2 t2 fb fx K0 K
  of := fun _ _ e => ⟨_, _, He.frG_in, He.frG_in, SaysT3.of e⟩
  keeps := fun _ _ _ ⟨K0, K, h0, h1, c⟩ k => ⟨K0, K, PySem.W.Frag.In.keeps h0 k, PySem.W.Frag.In.keeps h1 k, c⟩
theorem obsT3_eq {as : List Addr} {c t c2 t2 : Addr} {fb : List (PySem.W.Frag → Bool)} {fx : List DefX} {g : Addr → Option Obj} {s : Shared} (h : ∀ a, g a = s.heap.get? a) : obsT3 as c t c2 t2 fb fx g = (hookT3 as c t c2 t2 fb fx).obs s := by
  have e : g = s.heap.get? := funext h
  rw [e] <;> rfl
end Tr

/-! ### what the top has left -/
namespace Tr
open PySem PySem.Spec PyProof.Rows L2
def fb : List (PySem.W.Frag → Bool) := [
  (fun K => (He.Fa.noat "Numbers" "classes").ok K),
  (fun K => (He.Fa.noat "Numbers" "singles").ok K),
  (fun K => (He.Fa.free "abs").ok K),
  (fun K => (He.Fa.free "any").ok K),
  (fun K => (He.Fa.free "bool").ok K),
  (fun K => (He.Fa.free "enumerate").ok K),
  (fun K => (He.Fa.free "int").ok K),
  (fun K => (He.Fa.free "isinstance").ok K),
  (fun K => (He.Fa.free "len").ok K),
  (fun K => (He.Fa.free "list").ok K),
  (fun K => (He.Fa.free "min").ok K),
  (fun K => (He.Fa.free "range").ok K),
  (fun K => (He.Fa.free "set").ok K),
  (fun K => (He.Fa.free "sorted").ok K),
  (fun K => (He.Fa.free "tuple").ok K),
  (fun K => (He.Fa.glo "_law_bag").ok K),
  (fun K => (He.Fa.glo "_law_draw").ok K),
  (fun K => (He.Fa.glo "_law_has").ok K),
  (fun K => (He.Fa.glo "_law_pair").ok K),
  (fun K => (He.Fa.glo "_law_short_right").ok K),
  (fun K => (He.Fa.glo "_law_told").ok K),
  (fun K => (He.Fa.glo "_law_wrong").ok K),
  (fun K => (He.Fa.glo "bare_number").ok K),
  (fun K => (He.Fa.glo "combination").ok K),
  (fun K => (He.Fa.glo "common_divisor").ok K),
  (fun K => (He.Fa.glo "common_multiple").ok K),
  (fun K => (He.Fa.glo "inverse").ok K),
  (fun K => (He.Fa.glo "is_covered").ok K),
  (fun K => (He.Fa.glo "is_part").ok K),
  (fun K => (He.Fa.glo "is_whole").ok K),
  (fun K => (He.Fa.glo "refined").ok K),
  (fun K => (He.Fa.glo "tidy_classes").ok K),
  (fun K => (He.Fa.mkr "Numbers").ok K),
  (fun K => (He.Fa.glo "Numbers").ok K),
  (empB (He.dflAt ("Numbers", some "__init__") 0)),
  (fun K => (He.Fa.cls "Numbers").ok K),
  (kindB "Numbers"),
  (fun K => (He.Fa.meth "Numbers" "__contains__").ok K),
  (fun K => (He.Fa.meth "Numbers" "__eq__").ok K),
  (fun K => (He.Fa.meth "Numbers" "outside").ok K),
  (fun K => (He.Fa.meth "Numbers" "within").ok K),
  (neB_ "Numbers"),
  (isoB "Numbers"),
  (smB "Numbers" "class_of"),
  (smB "Numbers" "every"),
  (smB "Numbers" "of"),
  (smB "Numbers" "single"),
  (exnB "BadPart" ["index"]),
  (fun K => (He.Fa.glo "BadPart").ok K),
  (fun K => (He.Fa.free "super").ok K),
  (fun K => (He.Fa.glo "law").ok K)]
def fx : List DefX := [
  ⟨fun K => He.ga K "_law_bag", "_law_bag", "_law_bag", defArgs s__law_bag, defBody s__law_bag, defScope s__law_bag, [], [], []⟩,
  ⟨fun K => He.ga K "_law_draw", "_law_draw", "_law_draw", defArgs s__law_draw, defBody s__law_draw, defScope s__law_draw, [], [], []⟩,
  ⟨fun K => He.ga K "_law_has", "_law_has", "_law_has", defArgs s__law_has, defBody s__law_has, defScope s__law_has, [], [], []⟩,
  ⟨fun K => He.ga K "_law_pair", "_law_pair", "_law_pair", defArgs s__law_pair, defBody s__law_pair, defScope s__law_pair, [], [], []⟩,
  ⟨fun K => He.ga K "_law_short_right", "_law_short_right", "_law_short_right", defArgs s__law_short_right, defBody s__law_short_right, defScope s__law_short_right, [], [], []⟩,
  ⟨fun K => He.ga K "_law_told", "_law_told", "_law_told", defArgs s__law_told, defBody s__law_told, defScope s__law_told, [], [], []⟩,
  ⟨fun K => He.ga K "_law_wrong", "_law_wrong", "_law_wrong", defArgs s__law_wrong, defBody s__law_wrong, defScope s__law_wrong, [], [], []⟩,
  ⟨fun K => He.ga K "bare_number", "bare_number", "bare_number", defArgs s_bare_number, defBody s_bare_number, defScope s_bare_number, [], [], []⟩,
  ⟨fun K => He.ga K "combination", "combination", "combination", defArgs s_combination, defBody s_combination, defScope s_combination, [], [], []⟩,
  ⟨fun K => He.ga K "common_divisor", "common_divisor", "common_divisor", defArgs s_common_divisor, defBody s_common_divisor, defScope s_common_divisor, [], [], []⟩,
  ⟨fun K => He.ga K "common_multiple", "common_multiple", "common_multiple", defArgs s_common_multiple, defBody s_common_multiple, defScope s_common_multiple, [], [], []⟩,
  ⟨fun K => He.ga K "inverse", "inverse", "inverse", defArgs s_inverse, defBody s_inverse, defScope s_inverse, [], [], []⟩,
  ⟨fun K => He.ga K "is_covered", "is_covered", "is_covered", defArgs s_is_covered, defBody s_is_covered, defScope s_is_covered, [], [], []⟩,
  ⟨fun K => He.ga K "is_part", "is_part", "is_part", defArgs s_is_part, defBody s_is_part, defScope s_is_part, [], [], []⟩,
  ⟨fun K => He.ga K "is_whole", "is_whole", "is_whole", defArgs s_is_whole, defBody s_is_whole, defScope s_is_whole, [], [], []⟩,
  ⟨fun K => He.ga K "refined", "refined", "refined", defArgs s_refined, defBody s_refined, defScope s_refined, [], [], []⟩,
  ⟨fun K => He.ga K "tidy_classes", "tidy_classes", "tidy_classes", defArgs s_tidy_classes, defBody s_tidy_classes, defScope s_tidy_classes, [], [], []⟩,
  ⟨fun K => He.ma K (He.ga K "Numbers") "__init__", "__init__", "Numbers.__init__", defArgs s_Numbers___init__, defBody s_Numbers___init__, defScope s_Numbers___init__, [.adr (He.dflAt ("Numbers", some "__init__") 0)], [], []⟩,
  ⟨fun K => He.ma K (He.ga K "Numbers") "__init__", "__init__", "Numbers.__init__", defArgs s_Numbers___init__, defBody s_Numbers___init__, defScope s_Numbers___init__, [.adr (He.dflAt ("Numbers", some "__init__") 0)], [], []⟩,
  ⟨fun K => He.ma K (He.ga K "Numbers") "__contains__", "__contains__", "Numbers.__contains__", defArgs s_Numbers___contains__, defBody s_Numbers___contains__, defScope s_Numbers___contains__, [], [], []⟩,
  ⟨fun K => He.ma K (He.ga K "Numbers") "__eq__", "__eq__", "Numbers.__eq__", defArgs s_Numbers___eq__, defBody s_Numbers___eq__, defScope s_Numbers___eq__, [], [], []⟩,
  ⟨fun K => He.ma K (He.ga K "Numbers") "outside", "outside", "Numbers.outside", defArgs s_Numbers_outside, defBody s_Numbers_outside, defScope s_Numbers_outside, [], [], []⟩,
  ⟨fun K => He.ma K (He.ga K "Numbers") "within", "within", "Numbers.within", defArgs s_Numbers_within, defBody s_Numbers_within, defScope s_Numbers_within, [], [], []⟩,
  ⟨fun K => gof "staticmethod" K (He.ma K (He.ga K "Numbers") "class_of"), "class_of", "Numbers.class_of", defArgs s_Numbers_class_of, defBody s_Numbers_class_of, defScope s_Numbers_class_of, [], [], []⟩,
  ⟨fun K => gof "staticmethod" K (He.ma K (He.ga K "Numbers") "every"), "every", "Numbers.every", defArgs s_Numbers_every, defBody s_Numbers_every, defScope s_Numbers_every, [], [], []⟩,
  ⟨fun K => gof "staticmethod" K (He.ma K (He.ga K "Numbers") "of"), "of", "Numbers.of", defArgs s_Numbers_of, defBody s_Numbers_of, defScope s_Numbers_of, [], [], []⟩,
  ⟨fun K => gof "staticmethod" K (He.ma K (He.ga K "Numbers") "single"), "single", "Numbers.single", defArgs s_Numbers_single, defBody s_Numbers_single, defScope s_Numbers_single, [], [], []⟩,
  ⟨fun K => He.ma K (He.ga K "BadPart") "__init__", "__init__", "BadPart.__init__", defArgs s_BadPart___init__, defBody s_BadPart___init__, defScope s_BadPart___init__, [], ["__class__"], []⟩,
  ⟨fun K => He.ga K "law", "law", "law", defArgs s_law, defBody s_law, defScope s_law, [], [], []⟩]
def d0 : DefX := ⟨fun _ => 0, "law", "law", ⟨[], [], none, [], [], none, []⟩, [], ⟨.function, [], false, false, []⟩, [], [], []⟩
theorem txt_of {K : PySem.W.Frag} {h : Heap} {mg : Str → Option Value} (X : K.In h) (G : h.Ns mainGlobals mg) (c : SaysX fb fx K) : Txt K mg where
  a_Numbers__classes := He.noat_ok (c.fact 0 (f := (fun K => (He.Fa.noat "Numbers" "classes").ok K)) rfl)
  a_Numbers__singles := He.noat_ok (c.fact 1 (f := (fun K => (He.Fa.noat "Numbers" "singles").ok K)) rfl)
  b_abs := He.free_ok X G (c.fact 2 (f := (fun K => (He.Fa.free "abs").ok K)) rfl)
  b_any := He.free_ok X G (c.fact 3 (f := (fun K => (He.Fa.free "any").ok K)) rfl)
  b_bool := He.free_ok X G (c.fact 4 (f := (fun K => (He.Fa.free "bool").ok K)) rfl)
  b_enumerate := He.free_ok X G (c.fact 5 (f := (fun K => (He.Fa.free "enumerate").ok K)) rfl)
  b_int := He.free_ok X G (c.fact 6 (f := (fun K => (He.Fa.free "int").ok K)) rfl)
  b_isinstance := He.free_ok X G (c.fact 7 (f := (fun K => (He.Fa.free "isinstance").ok K)) rfl)
  b_len := He.free_ok X G (c.fact 8 (f := (fun K => (He.Fa.free "len").ok K)) rfl)
  b_list := He.free_ok X G (c.fact 9 (f := (fun K => (He.Fa.free "list").ok K)) rfl)
  b_min := He.free_ok X G (c.fact 10 (f := (fun K => (He.Fa.free "min").ok K)) rfl)
  b_range := He.free_ok X G (c.fact 11 (f := (fun K => (He.Fa.free "range").ok K)) rfl)
  b_set := He.free_ok X G (c.fact 12 (f := (fun K => (He.Fa.free "set").ok K)) rfl)
  b_sorted := He.free_ok X G (c.fact 13 (f := (fun K => (He.Fa.free "sorted").ok K)) rfl)
  b_tuple := He.free_ok X G (c.fact 14 (f := (fun K => (He.Fa.free "tuple").ok K)) rfl)
  d__law_bag := let ⟨fd, F⟩ := c.def_ 0 (d := fx.getD 0 d0) rfl; ⟨_, fd, F.fun_, He.glo_ok X G (c.fact 15 (f := (fun K => (He.Fa.glo "_law_bag").ok K)) rfl)⟩
  d__law_draw := let ⟨fd, F⟩ := c.def_ 1 (d := fx.getD 1 d0) rfl; ⟨_, fd, F.fun_, He.glo_ok X G (c.fact 16 (f := (fun K => (He.Fa.glo "_law_draw").ok K)) rfl)⟩
  d__law_has := let ⟨fd, F⟩ := c.def_ 2 (d := fx.getD 2 d0) rfl; ⟨_, fd, F.fun_, He.glo_ok X G (c.fact 17 (f := (fun K => (He.Fa.glo "_law_has").ok K)) rfl)⟩
  d__law_pair := let ⟨fd, F⟩ := c.def_ 3 (d := fx.getD 3 d0) rfl; ⟨_, fd, F.fun_, He.glo_ok X G (c.fact 18 (f := (fun K => (He.Fa.glo "_law_pair").ok K)) rfl)⟩
  d__law_short_right := let ⟨fd, F⟩ := c.def_ 4 (d := fx.getD 4 d0) rfl; ⟨_, fd, F.fun_, He.glo_ok X G (c.fact 19 (f := (fun K => (He.Fa.glo "_law_short_right").ok K)) rfl)⟩
  d__law_told := let ⟨fd, F⟩ := c.def_ 5 (d := fx.getD 5 d0) rfl; ⟨_, fd, F.fun_, He.glo_ok X G (c.fact 20 (f := (fun K => (He.Fa.glo "_law_told").ok K)) rfl)⟩
  d__law_wrong := let ⟨fd, F⟩ := c.def_ 6 (d := fx.getD 6 d0) rfl; ⟨_, fd, F.fun_, He.glo_ok X G (c.fact 21 (f := (fun K => (He.Fa.glo "_law_wrong").ok K)) rfl)⟩
  d_bare_number := let ⟨fd, F⟩ := c.def_ 7 (d := fx.getD 7 d0) rfl; ⟨_, fd, F.fun_, He.glo_ok X G (c.fact 22 (f := (fun K => (He.Fa.glo "bare_number").ok K)) rfl)⟩
  d_combination := let ⟨fd, F⟩ := c.def_ 8 (d := fx.getD 8 d0) rfl; ⟨_, fd, F.fun_, He.glo_ok X G (c.fact 23 (f := (fun K => (He.Fa.glo "combination").ok K)) rfl)⟩
  d_common_divisor := let ⟨fd, F⟩ := c.def_ 9 (d := fx.getD 9 d0) rfl; ⟨_, fd, F.fun_, He.glo_ok X G (c.fact 24 (f := (fun K => (He.Fa.glo "common_divisor").ok K)) rfl)⟩
  d_common_multiple := let ⟨fd, F⟩ := c.def_ 10 (d := fx.getD 10 d0) rfl; ⟨_, fd, F.fun_, He.glo_ok X G (c.fact 25 (f := (fun K => (He.Fa.glo "common_multiple").ok K)) rfl)⟩
  d_inverse := let ⟨fd, F⟩ := c.def_ 11 (d := fx.getD 11 d0) rfl; ⟨_, fd, F.fun_, He.glo_ok X G (c.fact 26 (f := (fun K => (He.Fa.glo "inverse").ok K)) rfl)⟩
  d_is_covered := let ⟨fd, F⟩ := c.def_ 12 (d := fx.getD 12 d0) rfl; ⟨_, fd, F.fun_, He.glo_ok X G (c.fact 27 (f := (fun K => (He.Fa.glo "is_covered").ok K)) rfl)⟩
  d_is_part := let ⟨fd, F⟩ := c.def_ 13 (d := fx.getD 13 d0) rfl; ⟨_, fd, F.fun_, He.glo_ok X G (c.fact 28 (f := (fun K => (He.Fa.glo "is_part").ok K)) rfl)⟩
  d_is_whole := let ⟨fd, F⟩ := c.def_ 14 (d := fx.getD 14 d0) rfl; ⟨_, fd, F.fun_, He.glo_ok X G (c.fact 29 (f := (fun K => (He.Fa.glo "is_whole").ok K)) rfl)⟩
  d_refined := let ⟨fd, F⟩ := c.def_ 15 (d := fx.getD 15 d0) rfl; ⟨_, fd, F.fun_, He.glo_ok X G (c.fact 30 (f := (fun K => (He.Fa.glo "refined").ok K)) rfl)⟩
  d_tidy_classes := let ⟨fd, F⟩ := c.def_ 16 (d := fx.getD 16 d0) rfl; ⟨_, fd, F.fun_, He.glo_ok X G (c.fact 31 (f := (fun K => (He.Fa.glo "tidy_classes").ok K)) rfl)⟩
  e_Numbers := let ⟨fd, F⟩ := c.def_ 17 (d := fx.getD 17 d0) rfl; ⟨_, fd, _, He.mkr_ok (c.fact 32 (f := (fun K => (He.Fa.mkr "Numbers").ok K)) rfl), He.glo_ok X G (c.fact 33 (f := (fun K => (He.Fa.glo "Numbers").ok K)) rfl), F, empB_ok (c.fact 34 (f := (empB (He.dflAt ("Numbers", some "__init__") 0))) rfl)⟩
  i_Numbers := let ⟨fd, F⟩ := c.def_ 18 (d := fx.getD 18 d0) rfl; ⟨_, fd, _, He.mkr_ok (c.fact 32 (f := (fun K => (He.Fa.mkr "Numbers").ok K)) rfl), He.glo_ok X G (c.fact 33 (f := (fun K => (He.Fa.glo "Numbers").ok K)) rfl), F, rfl⟩
  k_Numbers := He.cls_ok (c.fact 35 (f := (fun K => (He.Fa.cls "Numbers").ok K)) rfl)
  l_Numbers := kindB_ok (c.fact 36 (f := (kindB "Numbers")) rfl)
  m_Numbers____contains__ := let ⟨fd, F⟩ := c.def_ 19 (d := fx.getD 19 d0) rfl; ⟨He.cls_ok (c.fact 35 (f := (fun K => (He.Fa.cls "Numbers").ok K)) rfl), _, fd, He.meth_ok (c.fact 37 (f := (fun K => (He.Fa.meth "Numbers" "__contains__").ok K)) rfl), F.fun_⟩
  m_Numbers____eq__ := let ⟨fd, F⟩ := c.def_ 20 (d := fx.getD 20 d0) rfl; ⟨He.cls_ok (c.fact 35 (f := (fun K => (He.Fa.cls "Numbers").ok K)) rfl), _, fd, He.meth_ok (c.fact 38 (f := (fun K => (He.Fa.meth "Numbers" "__eq__").ok K)) rfl), F.fun_⟩
  m_Numbers__outside := let ⟨fd, F⟩ := c.def_ 21 (d := fx.getD 21 d0) rfl; ⟨He.cls_ok (c.fact 35 (f := (fun K => (He.Fa.cls "Numbers").ok K)) rfl), _, fd, He.meth_ok (c.fact 39 (f := (fun K => (He.Fa.meth "Numbers" "outside").ok K)) rfl), F.fun_⟩
  m_Numbers__within := let ⟨fd, F⟩ := c.def_ 22 (d := fx.getD 22 d0) rfl; ⟨He.cls_ok (c.fact 35 (f := (fun K => (He.Fa.cls "Numbers").ok K)) rfl), _, fd, He.meth_ok (c.fact 40 (f := (fun K => (He.Fa.meth "Numbers" "within").ok K)) rfl), F.fun_⟩
  n_Numbers := neB_ok (c.fact 41 (f := (neB_ "Numbers")) rfl)
  o_Numbers := isoB_ok (c.fact 42 (f := (isoB "Numbers")) rfl)
  s_Numbers__class_of := let ⟨fd, F⟩ := c.def_ 23 (d := fx.getD 23 d0) rfl; ⟨_, _, fd, smB_ok (c.fact 43 (f := (smB "Numbers" "class_of")) rfl), F.fun_⟩
  s_Numbers__every := let ⟨fd, F⟩ := c.def_ 24 (d := fx.getD 24 d0) rfl; ⟨_, _, fd, smB_ok (c.fact 44 (f := (smB "Numbers" "every")) rfl), F.fun_⟩
  s_Numbers__of := let ⟨fd, F⟩ := c.def_ 25 (d := fx.getD 25 d0) rfl; ⟨_, _, fd, smB_ok (c.fact 45 (f := (smB "Numbers" "of")) rfl), F.fun_⟩
  s_Numbers__single := let ⟨fd, F⟩ := c.def_ 26 (d := fx.getD 26 d0) rfl; ⟨_, _, fd, smB_ok (c.fact 46 (f := (smB "Numbers" "single")) rfl), F.fun_⟩
  v_Numbers := He.glo_ok X G (c.fact 33 (f := (fun K => (He.Fa.glo "Numbers").ok K)) rfl)
  x_BadPart := exnB_ok (c.fact 47 (f := (exnB "BadPart" ["index"])) rfl) (He.glo_ok X G (c.fact 48 (f := (fun K => (He.Fa.glo "BadPart").ok K)) rfl)) (He.free_ok X G (c.fact 49 (f := (fun K => (He.Fa.free "super").ok K)) rfl)) c 27 rfl
def names : List PySem.Str := (["_wall", "common_divisor", "common_multiple", "combination", "inverse", "common_class", "TurnError", "BadPart", "is_whole", "is_part", "tidy_classes", "refined", "is_covered", "bare_number", "Numbers", "_law_bag", "_law_draw", "_law_pair", "_law_wrong", "_law_told", "_law_has", "_law_short_right"] : List PySem.Str)
abbrev R : PySem.W.OpenRow := PySem.W.OpenLaw.row PySem.Challenge.rw_turnrings_k01_numbers_made_and_refused
instance pmain : PMain PySem.Challenge.rw_turnrings_k01_numbers_made_and_refused.prog := ⟨by rfl, by rfl⟩
def asL : List Addr := [3, 2, 28, 35, 42, 49, 66, 88, 97, 104, 109, 116, 121, 126, 344, 355, 362, 369, 376, 383, 388, 395, 400, 27, 34, 41, 48, 65, 87, 96, 103, 108, 115, 120, 125, 343, 354, 361, 368, 375, 382, 387, 394, 399, 85, 140, 149, 159, 167, 177, 190, 247, 254, 261, 84, 73, 139, 135, 147, 157, 165, 175, 189, 246, 253, 260, 134, 146, 156, 164, 174]
def hk : PySem.W.Hook := hookT3 asL 399 397 394 390 fb fx
def ob (s : PySem.W.SharedT) : AlX := obsT3 asL 399 397 394 390 fb fx (HandSHeadRun.getT s)
theorem ob_eq (s : PySem.W.SharedT) : ob s = hk.obs s.abs := obsT3_eq (HandSHeadRun.getT_eq s)
theorem map3 {α β γ δ : Type} {o : Option α} {f : α → β} {g : α → γ} {h : α → δ} {x : β} {y : γ} {z : δ} (a : o.map f = some x) (b : o.map g = some y) (c : o.map h = some z) : o.map (fun s => (f s, g s, h s)) = some (x, y, z) := by
  cases o with
  | none => cases a
  | some s =>
    have a := Option.some.inj a
    have b := Option.some.inj b
    have c := Option.some.inj c
    show some (f s, g s, h s) = _
    rw [a, b, c]
theorem runL (w : World) (os : OsState) : (HandSHeadRun.endF (HandSHeadRun.stepQ (HandSHeadRun.denQ HandSHeadRun.tabQ) R.prog w) 40000 R.prog w os).map (fun s => HandSHeadRun.looksF R.prog (PySem.W.boot_heap w.params) s.abs) = some true := by kernel_rfl
open PySem PySem.W in
theorem runS (w : World) (os : OsState) : (HandSHeadRun.endF (HandSHeadRun.stepQ (HandSHeadRun.denQ HandSHeadRun.tabQ) R.prog w) 40000 R.prog w os).map (fun s => HandSHeadRun.seenQ (PySem.W.view R.prog [26]) names (importedModules R.prog.main.body) (fun s => PySem.W.xlAt (PySem.W.view R.prog [26]) [] s && PySem.W.recOk R.toRowW.records s) s.abs) = some (PySem.W.openGood (PySem.W.view R.prog [26]) names) := by kernel_rfl
theorem runO1 (w : World) (os : OsState) : (HandSHeadRun.endF (HandSHeadRun.stepQ (HandSHeadRun.denQ HandSHeadRun.tabQ) R.prog w) 40000 R.prog w os).map (fun s => (ob s).1) = some true := by kernel_rfl
theorem runO2 (w : World) (os : OsState) : (HandSHeadRun.endF (HandSHeadRun.stepQ (HandSHeadRun.denQ HandSHeadRun.tabQ) R.prog w) 40000 R.prog w os).map (fun s => (ob s).2) = some (fx.map DefX.val) := by kernel_rfl
theorem runO (w : World) (os : OsState) : (HandSHeadRun.endF (HandSHeadRun.stepQ (HandSHeadRun.denQ HandSHeadRun.tabQ) R.prog w) 40000 R.prog w os).map (fun s => ob s) = some (hk.val w) := map2 (runO1 w os) (runO2 w os)
theorem run (w : World) : HandSHeadRun.RunEq R (PySem.W.view R.prog [26]) hk ob 40000 names w := fun os => map3 (runL w os) (runS w os) (runO w os)
end Tr
open PySem PySem.W PySem.Calls PyProof.Rows
set_option maxHeartbeats 0
theorem PySem.Challenge.cw_turnrings_k01_numbers_made_and_refused_holds : PySem.Challenge.rw_turnrings_k01_numbers_made_and_refused.Holds := by
  w_on; o_law
  refine HandSHeadRun.head_any (r := OpenLaw.row PySem.Challenge.rw_turnrings_k01_numbers_made_and_refused) (q := view (OpenLaw.row PySem.Challenge.rw_turnrings_k01_numbers_made_and_refused).prog [26]) (H := Tr.hk) (ob := Tr.ob) (M := 40000) (loose := Tr.names) (d := HandSHeadRun.topDef (OpenLaw.row PySem.Challenge.rw_turnrings_k01_numbers_made_and_refused).prog 26) (kwd := []) Tr.ob_eq
    (by kernel_rfl) (fun s => by kernel_rfl) Tr.run (by kernel_rfl) (by kernel_rfl) (by kernel_rfl) (by rfl) (by first | assumption | decide +kernel) (by decide +kernel) ⟨rfl, rfl, rfl, rfl, rfl, by decide +kernel⟩ ?hw ?hc
  case hw => w_witness2
  case hc =>
    refine LamX.walk_ofTsE (l := PySem.Challenge.rw_turnrings_k01_numbers_made_and_refused) (n := 63) (k := 80) (x := "_law_script") (CX := fun _ => L2.CX0) rfl (by decide) (by kernel_rfl) ⟨rfl, by decide, by decide⟩ ?F (fun _ _ _ _ _ z => z)
    intro w mg fa h Y G hmg0
    obtain ⟨K0, K, KX0, KX, ht, c⟩ := Y
    obtain ⟨ht1, ht⟩ := He.ba ht
    obtain ⟨ht2, ht⟩ := He.ba ht
    obtain ⟨hu1, ht⟩ := He.ba ht
    obtain ⟨hu2, ht⟩ := He.ba ht
    obtain ⟨ho1, ht⟩ := He.ba ht
    obtain ⟨ho2, ht⟩ := He.ba ht
    obtain ⟨hn1, hn2⟩ := He.ba ht
    have hmg : mg ("law" : PySem.Str) = some (.ref fa) := by
      have e : (HandSHeadRun.topDef (OpenLaw.row PySem.Challenge.rw_turnrings_k01_numbers_made_and_refused).prog 26).name = ("law" : PySem.Str) := by kernel_rfl
      rw [← e]
      exact hmg0
    have e := hmg.symm.trans (He.glo_ok KX G (Tr.SaysX.fact c 50 (f := (fun K => (He.Fa.glo "law").ok K)) rfl))
    cases e
    obtain ⟨fd, F⟩ := Tr.SaysX.def_ c 28 (d := Tr.fx.getD 28 Tr.d0) rfl
    have T := Tr.txt_of KX G c
    have F2 : L2.Fun K "law" "law" Tr.s_law (He.ga K "law") fd := F.fun_
    have ho : fd.code = .ref 399 := Tr.ownB_ok F2 ho1
    obtain ⟨fdm, FM⟩ := Tr.SaysX.def_ c 4 (d := Tr.fx.getD 4 Tr.d0) rfl
    have F3 : L2.Fun K "_law_short_right" "_law_short_right" Tr.s__law_short_right (He.ga K "_law_short_right") fdm := FM.fun_
    have hom : fdm.code = .ref 394 := Tr.ownB_ok F3 ho2
    refine ⟨K, KX, fd, [(399, 397), (394, 390)], Tr.spLaw K 397 390, ?_, ?_, ?_, fun s u => L2.FunD.bindsA (ps := ["_law_script"]) F (fun _ _ _ _ _ _ us hl => match us, hl with | [_], _ => rfl) s [u] rfl, fun H a ns hl _ hT hS => ⟨a, ns, rfl, hS, hT _ List.mem_cons_self, hT _ (List.mem_cons_of_mem _ List.mem_cons_self), fun _ => rfl⟩, fun base _ _ TB => L2.FnOk.to0 (Tr.ok_law T F2 ho (TB _ List.mem_cons_self) ⟨_, fdm, F3, He.glo_ok KX G (Tr.SaysX.fact c 19 (f := (fun K => (He.Fa.glo "_law_short_right").ok K)) rfl), hom⟩ (TB _ (List.mem_cons_of_mem _ List.mem_cons_self)) (by decide)) fun vs H Q E h => h⟩
    · intro p hp
      rcases List.mem_cons.mp hp with rfl | hp
      · exact Tr.emptyB_ok KX0 ht2
      · rw [List.mem_singleton.mp hp]
        exact Tr.emptyB_ok KX0 hu2
    · intro p hp
      rcases List.mem_cons.mp hp with rfl | hp
      · exact Option.isNone_iff_eq_none.mp hn1
      · rw [List.mem_singleton.mp hp]
        exact Option.isNone_iff_eq_none.mp hn2
    · intro p hp
      rcases List.mem_cons.mp hp with rfl | hp
      · exact PySem.W.codeHd_of_K KX0 ht1
      · rw [List.mem_singleton.mp hp]
        exact PySem.W.codeHd_of_K KX0 hu1
